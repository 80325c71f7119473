import PyProof.Rows.All
import Wide.All
import OpenK.AllK
import Wide.FinOn
import HandS.ForMost
import HandS.Style
import HandS.IsInst
import HandS.Wide
import KE.SortData
import KE.DataMinMax
import KE.DataCmp
import KE.DataFind
import HandS.Set
import HandS.SetFor
import HandS.Codes
import HandS.Replace
import HandS.SetBool
import HandS.Defaults
import HandS.Iter
import KE.OsScanText
import HandS.WordsDict
import HandS.TupLen
import PySem.Challenge.RW_whatcomesfree_k18_records_and_entries
set_option Elab.async false
set_option linter.all false
set_option maxRecDepth 100000
set_option maxHeartbeats 4000000
set_option autoImplicit false
/-! The D layer, part 1: plain data over the hand layer's heap; expressions, tests, statements by what they do to plain data. -/
namespace DL
open PySem PySem.Spec PyProof.Rows L2

/-! ### plain data -/
inductive D where
  | non | bl (b : Bool) | int (i : Int) | str (x : Str) | ref (p : Addr) | ty (n : String)
  | tup (ds : List D) | lst (ds : List D)
  | dK (kvs : List (Key × D)) | dT (kvs : List (List Key × D))
  | st (ks : List Key)
  | ins (C : Addr) (fs : List (Str × D))

/-- a value over shared (never changing) objects stands for data -/
inductive Rep (G : Hp) : V → D → Prop where
  | non : Rep G .non .non
  | bl (b : Bool) : Rep G (.bl b) (.bl b)
  | int (i : Int) : Rep G (.int i) (.int i)
  | str (x : Str) : Rep G (.str x) (.str x)
  | ref (p : Addr) : Rep G (.ref p) (.ref p)
  | ty (n : String) : Rep G (.ty n) (.ty n)
  | tup {p : Addr} {vs : List V} {ds : List D} : G p = some (.tup vs) → vs.length = ds.length → (∀ (i : Nat) v d, vs[i]? = some v → ds[i]? = some d → Rep G v d) → Rep G (.ref p) (.tup ds)
  | lst {p : Addr} {vs : List V} {ds : List D} : G p = some (.lst vs) → vs.length = ds.length → (∀ (i : Nat) v d, vs[i]? = some v → ds[i]? = some d → Rep G v d) → Rep G (.ref p) (.lst ds)

def Reps (G : Hp) (vs : List V) (ds : List D) : Prop := vs.length = ds.length ∧ ∀ (i : Nat) v d, vs[i]? = some v → ds[i]? = some d → Rep G v d

theorem Rep.mono {G G' : Hp} (e : Same G G') {v : V} {d : D} (h : Rep G v d) : Rep G' v d := by
  induction h with
  | non => exact .non
  | bl b => exact .bl b
  | int i => exact .int i
  | str x => exact .str x
  | ref p => exact .ref p
  | ty n => exact .ty n
  | tup h l _ ih => exact .tup (e _ _ h) l ih
  | lst h l _ ih => exact .lst (e _ _ h) l ih
theorem Reps.mono {G G' : Hp} (e : Same G G') {vs : List V} {ds : List D} (h : Reps G vs ds) : Reps G' vs ds := ⟨h.1, fun i v d a b => (h.2 i v d a b).mono e⟩
theorem Reps.nil {G : Hp} : Reps G [] [] := ⟨rfl, fun i v d a => by simp at a⟩
theorem Reps.cons {G : Hp} {v : V} {d : D} {vs : List V} {ds : List D} (h : Rep G v d) (t : Reps G vs ds) : Reps G (v :: vs) (d :: ds) := by
  refine ⟨by rw [List.length_cons, List.length_cons, t.1], fun i x y a b => ?_⟩
  cases i with
  | zero => simp at a b; subst a; subst b; exact h
  | succ i => exact t.2 i x y (by simpa using a) (by simpa using b)
theorem Reps.head {G : Hp} {v : V} {d : D} {vs : List V} {ds : List D} (h : Reps G (v :: vs) (d :: ds)) : Rep G v d := h.2 0 v d rfl rfl
theorem Reps.tail {G : Hp} {v : V} {d : D} {vs : List V} {ds : List D} (h : Reps G (v :: vs) (d :: ds)) : Reps G vs ds := ⟨by have := h.1; simpa using this, fun i x y a b => h.2 (i + 1) x y (by simpa using a) (by simpa using b)⟩
theorem Reps.nil_inv {G : Hp} {vs : List V} (h : Reps G vs []) : vs = [] := List.eq_nil_of_length_eq_zero h.1
theorem Reps.cons_inv {G : Hp} {vs : List V} {d : D} {ds : List D} (h : Reps G vs (d :: ds)) : ∃ v vr, vs = v :: vr ∧ Rep G v d ∧ Reps G vr ds := by
  cases vs with
  | nil => have := h.1; simp at this
  | cons v vr => exact ⟨v, vr, rfl, h.head, h.tail⟩
theorem Reps.one {G : Hp} {vs : List V} {d : D} (h : Reps G vs [d]) : ∃ v, vs = [v] ∧ Rep G v d := by
  obtain ⟨v, vr, rfl, a, b⟩ := h.cons_inv
  rw [b.nil_inv]; exact ⟨v, rfl, a⟩
theorem Reps.two {G : Hp} {vs : List V} {d e : D} (h : Reps G vs [d, e]) : ∃ v u, vs = [v, u] ∧ Rep G v d ∧ Rep G u e := by
  obtain ⟨v, vr, rfl, a, b⟩ := h.cons_inv
  obtain ⟨u, rfl, c⟩ := b.one
  exact ⟨v, u, rfl, a, c⟩
theorem Reps.get {G : Hp} {vs : List V} {ds : List D} (h : Reps G vs ds) {i : Nat} {d : D} (e : ds[i]? = some d) : ∃ v, vs[i]? = some v ∧ Rep G v d := by
  have hi := (List.getElem?_eq_some_iff.mp e).1
  rw [← h.1] at hi
  exact ⟨vs[i], List.getElem?_eq_getElem hi, h.2 i _ d (List.getElem?_eq_getElem hi) e⟩
theorem Reps.getV {G : Hp} {vs : List V} {ds : List D} (h : Reps G vs ds) {i : Nat} {v : V} (e : vs[i]? = some v) : ∃ d, ds[i]? = some d ∧ Rep G v d := by
  have hi := (List.getElem?_eq_some_iff.mp e).1
  rw [h.1] at hi
  exact ⟨ds[i], List.getElem?_eq_getElem hi, h.2 i v _ e (List.getElem?_eq_getElem hi)⟩
theorem Reps.induct {G : Hp} {P : List V → List D → Prop} (h0 : P [] []) (h1 : ∀ v vs d ds, Rep G v d → Reps G vs ds → P vs ds → P (v :: vs) (d :: ds)) : ∀ {vs : List V} {ds : List D}, Reps G vs ds → P vs ds
  | vs, [], h => by rw [h.nil_inv]; exact h0
  | vs, d :: ds, h => by
    obtain ⟨v, vr, rfl, a, b⟩ := h.cons_inv
    exact h1 _ _ _ _ a b (Reps.induct h0 h1 b)
theorem Reps.append {G : Hp} {vs us : List V} {ds es : List D} (h : Reps G vs ds) (t : Reps G us es) : Reps G (vs ++ us) (ds ++ es) :=
  Reps.induct (P := fun vs ds => Reps G (vs ++ us) (ds ++ es)) t (fun _ _ _ _ a _ ih => Reps.cons a ih) h
theorem Reps.set {G : Hp} {vs : List V} {ds : List D} (h : Reps G vs ds) {v : V} {d : D} (r : Rep G v d) (i : Nat) : Reps G (vs.set i v) (ds.set i d) := by
  refine ⟨by rw [List.length_set, List.length_set, h.1], fun j x y a b => ?_⟩
  by_cases e : i = j
  · subst e
    rw [List.getElem?_set] at a b
    simp only [if_pos] at a b
    split at a <;> split at b <;> cases a <;> cases b
    exact r
  · rw [List.getElem?_set_ne e] at a b
    exact h.2 j x y a b
theorem Reps.take {G : Hp} {vs : List V} {ds : List D} (h : Reps G vs ds) (n : Nat) : Reps G (vs.take n) (ds.take n) := by
  refine ⟨by rw [List.length_take, List.length_take, h.1], fun j x y a b => ?_⟩
  rw [List.getElem?_take] at a b
  split at a
  · rename_i hj
    rw [if_pos hj] at b
    exact h.2 j x y a b
  · cases a
theorem Reps.drop {G : Hp} {vs : List V} {ds : List D} (h : Reps G vs ds) (n : Nat) : Reps G (vs.drop n) (ds.drop n) := by
  refine ⟨by rw [List.length_drop, List.length_drop, h.1], fun j x y a b => ?_⟩
  rw [List.getElem?_drop] at a b
  exact h.2 _ x y a b
theorem Reps.reverse {G : Hp} {vs : List V} {ds : List D} (h : Reps G vs ds) : Reps G vs.reverse ds.reverse :=
  Reps.induct (P := fun vs ds => Reps G vs.reverse ds.reverse) Reps.nil (fun _ _ _ _ a _ ih => by
    rw [List.reverse_cons, List.reverse_cons]
    exact ih.append (Reps.cons a Reps.nil)) h
theorem Reps.dropLast {G : Hp} {vs : List V} {ds : List D} (h : Reps G vs ds) : Reps G vs.dropLast ds.dropLast := by
  rw [List.dropLast_eq_take, List.dropLast_eq_take, h.1]
  exact h.take _
theorem Reps.eraseIdx {G : Hp} {vs : List V} {ds : List D} (h : Reps G vs ds) (i : Nat) : Reps G (vs.eraseIdx i) (ds.eraseIdx i) := by
  rw [List.eraseIdx_eq_take_drop_succ, List.eraseIdx_eq_take_drop_succ]
  exact (h.take _).append (h.drop _)
theorem Reps.none_of {G : Hp} {vs : List V} {ds : List D} (h : Reps G vs ds) {i : Nat} (e : ds[i]? = none) : vs[i]? = none := by
  rw [List.getElem?_eq_none_iff] at e ⊢
  rw [h.1]; exact e

/-- an object's shell: its own make now, its items shared -/
inductive Shell (G : Hp) : HO → D → Prop where
  | lst {vs : List V} {ds : List D} : Reps G vs ds → Shell G (.lst vs) (.lst ds)
  | dK {kvs : List (Key × V)} {kds : List (Key × D)} : kvs.map (·.1) = kds.map (·.1) → Reps G (kvs.map (·.2)) (kds.map (·.2)) → Shell G (.dK kvs) (.dK kds)
  | dT {kvs : List (List Key × V)} {kds : List (List Key × D)} : kvs.map (·.1) = kds.map (·.1) → Reps G (kvs.map (·.2)) (kds.map (·.2)) → Shell G (.dT kvs) (.dT kds)
  | ins {C dx : Addr} {fs : List (Str × V)} {fds : List (Str × D)} : fs.map (·.1) = fds.map (·.1) → Reps G (fs.map (·.2)) (fds.map (·.2)) → Shell G (.ins C dx fs) (.ins C fds)
theorem Shell.mono {G G' : Hp} (e : Same G G') {o : HO} {d : D} (h : Shell G o d) : Shell G' o d := by
  cases h with
  | lst h => exact .lst (h.mono e)
  | dK a h => exact .dK a (h.mono e)
  | dT a h => exact .dT a (h.mono e)
  | ins a h => exact .ins a (h.mono e)
theorem Shell.lst_inv {G : Hp} {o : HO} {ds : List D} (h : Shell G o (.lst ds)) : ∃ vs, o = .lst vs ∧ Reps G vs ds := by
  cases h with
  | lst h => exact ⟨_, rfl, h⟩
theorem Shell.tup_inv {G : Hp} {o : HO} {ds : List D} (h : Shell G o (.tup ds)) : ∃ vs, o = .tup vs ∧ Reps G vs ds := by
  cases h
theorem Shell.notT {G : Hp} {vs : List V} {d : D} (h : Shell G (.tup vs) d) : False := by
  cases h
theorem Shell.dK_inv {G : Hp} {o : HO} {kds : List (Key × D)} (h : Shell G o (.dK kds)) : ∃ kvs, o = .dK kvs ∧ kvs.map (·.1) = kds.map (·.1) ∧ Reps G (kvs.map (·.2)) (kds.map (·.2)) := by
  cases h with
  | dK a h => exact ⟨_, rfl, a, h⟩
theorem Shell.dT_inv {G : Hp} {o : HO} {kds : List (List Key × D)} (h : Shell G o (.dT kds)) : ∃ kvs, o = .dT kvs ∧ kvs.map (·.1) = kds.map (·.1) ∧ Reps G (kvs.map (·.2)) (kds.map (·.2)) := by
  cases h with
  | dT a h => exact ⟨_, rfl, a, h⟩
/-- what is shared stands for itself -/
theorem Shell.rep {G : Hp} {p : Addr} {o : HO} {d : D} (e : G p = some o) (h : Shell G o d) (hi : (∃ ds, d = .lst ds) ∨ ∃ ds, d = .tup ds) : Rep G (.ref p) d := by
  cases h with
  | lst h => exact .lst e h.1 h.2
  | dK a h => rcases hi with ⟨_, z⟩ | ⟨_, z⟩ <;> cases z
  | dT a h => rcases hi with ⟨_, z⟩ | ⟨_, z⟩ <;> cases z
  | ins a h => rcases hi with ⟨_, z⟩ | ⟨_, z⟩ <;> cases z

/-! ### environments -/
abbrev Mem := List (Addr × D)
structure Env where
  sl : List (Option D)
  M : Mem
  R : Mem
structure Fr where
  B : Hp
  G0 : Hp

structure MemOk (B G H : Hp) (M : Mem) : Prop where
  nd : (M.map (·.1)).Nodup
  at_ : ∀ q ∈ M, B q.1 = none ∧ G q.1 = none ∧ ∃ o, H q.1 = some o ∧ Shell G o q.2
structure Holds (F : Fr) (G : Hp) (Γ : DL.Env) (σ : L2.St) (H : Hp) : Prop where
  g0 : Same F.G0 G
  gh : Same G H
  bh : Same F.B H
  gb : Same F.G0 F.B
  nw : ∀ p o, G p = some o → F.G0 p = some o ∨ F.B p = none ∨ ∃ vs, o = .tup vs
  len : σ.length = Γ.sl.length
  sl : ∀ (i : Nat) (d : D), Γ.sl[i]? = some (some d) → ∃ v, σ[i]? = some (some v) ∧ Rep G v d
  mem : MemOk F.B G H Γ.M
  rd : ∀ q ∈ Γ.R, ∃ o, Rd F.B q.1 o ∧ Shell G o q.2

/-- what a value shows: itself, or what stands at its place -/
inductive See (M R : Mem) : D → D → Prop where
  | self (c : D) : See M R c c
  | own {p : Addr} {c : D} : (p, c) ∈ M → See M R (.ref p) c
  | rd {p : Addr} {c : D} : (p, c) ∈ R → See M R (.ref p) c
theorem See.any {M R : Mem} {d c : D} (h : See [] R d c) : See M R d c := by
  cases h with
  | self => exact .self _
  | own h => cases h
  | rd h => exact .rd h

section
variable {F : Fr} {G : Hp} {Γ : DL.Env} {σ : L2.St} {H : Hp}
theorem rd_same {B H : Hp} (e : Same B H) {p : Addr} {o : HO} (h : Rd B p o) : Rd H p o := by
  rcases h with h | ⟨q, h⟩
  · exact .inl (e _ _ h)
  · exact .inr ⟨q, e _ _ h⟩
theorem Holds.see (h : Holds F G Γ σ H) {d c : D} {v : V} (r : Rep G v d) (s : See Γ.M Γ.R d c) : (∃ p o, v = .ref p ∧ Rd H p o ∧ Shell G o c) ∨ (d = c ∧ Rep G v c) := by
  cases s with
  | self => exact .inr ⟨rfl, r⟩
  | own m =>
    obtain ⟨_, _, o, ho, hs⟩ := h.mem.at_ _ m
    cases r
    exact .inl ⟨_, o, rfl, .inl ho, hs⟩
  | rd m =>
    obtain ⟨o, ho, hs⟩ := h.rd _ m
    cases r
    exact .inl ⟨_, o, rfl, rd_same h.bh ho, hs⟩
theorem Holds.seeL (h : Holds F G Γ σ H) {K : PySem.W.Frag} {d : D} {ds : List D} {v : V} (r : Rep G v d) (s : See Γ.M Γ.R d (.lst ds)) : ∃ p vs, v = .ref p ∧ SqL K H p vs ∧ Reps G vs ds := by
  rcases h.see r s with ⟨p, o, rfl, ho, hs⟩ | ⟨rfl, r⟩
  · obtain ⟨vs, rfl, hr⟩ := hs.lst_inv
    exact ⟨p, vs, rfl, .inl ho, hr⟩
  · cases r with
    | lst e l a => exact ⟨_, _, rfl, .inl (.inl (h.gh _ _ e)), l, a⟩
theorem Holds.seeT (h : Holds F G Γ σ H) {K : PySem.W.Frag} {d : D} {ds : List D} {v : V} (r : Rep G v d) (s : See Γ.M Γ.R d (.tup ds)) : ∃ p vs, v = .ref p ∧ SqT K H p vs ∧ Reps G vs ds := by
  rcases h.see r s with ⟨p, o, rfl, ho, hs⟩ | ⟨rfl, r⟩
  · obtain ⟨vs, rfl, hr⟩ := hs.tup_inv
    exact ⟨p, vs, rfl, .inl ho, hr⟩
  · cases r with
    | tup e l a => exact ⟨_, _, rfl, .inl (.inl (h.gh _ _ e)), l, a⟩
theorem Rep.tup_inv {v : V} {ds : List D} (r : Rep G v (.tup ds)) : ∃ p vs, v = .ref p ∧ G p = some (.tup vs) ∧ Reps G vs ds := by
  cases r with
  | tup e l a => exact ⟨_, _, rfl, e, l, a⟩
theorem Rep.lst_inv {v : V} {ds : List D} (r : Rep G v (.lst ds)) : ∃ p vs, v = .ref p ∧ G p = some (.lst vs) ∧ Reps G vs ds := by
  cases r with
  | lst e l a => exact ⟨_, _, rfl, e, l, a⟩
theorem Rep.int_inv {v : V} {i : Int} (r : Rep G v (.int i)) : v = .int i := by cases r; rfl
theorem Rep.bl_inv {v : V} {i : Bool} (r : Rep G v (.bl i)) : v = .bl i := by cases r; rfl
theorem Rep.str_inv {v : V} {i : Str} (r : Rep G v (.str i)) : v = .str i := by cases r; rfl
theorem Rep.non_inv {v : V} (r : Rep G v .non) : v = .non := by cases r; rfl
theorem Rep.ref_inv {v : V} {p : Addr} (r : Rep G v (.ref p)) : v = .ref p := by cases r; rfl

/-- a new object, owned -/
theorem Holds.newOwn (h : Holds F G Γ σ H) {p : Addr} {o : HO} {c : D} (hp : H p = none) (hs : Shell G o c) : Holds F G ⟨Γ.sl, (p, c) :: Γ.M, Γ.R⟩ σ (upd H p o) where
  g0 := h.g0
  gh := h.gh.trans (fun b u e => by rw [upd_ne (ne_of_none e hp)]; exact e)
  bh := h.bh.trans (fun b u e => by rw [upd_ne (ne_of_none e hp)]; exact e)
  gb := h.gb
  nw := h.nw
  len := h.len
  sl := h.sl
  mem := by
    have hB : F.B p = none := h.bh.free hp
    have hG : G p = none := h.gh.free hp
    refine ⟨?_, fun q m => ?_⟩
    · rw [List.map_cons, List.nodup_cons]
      refine ⟨fun ha => ?_, h.mem.nd⟩
      obtain ⟨q, hq, e⟩ := List.mem_map.mp ha
      obtain ⟨_, _, o', e', _⟩ := h.mem.at_ q hq
      have e2 : q.1 = p := e
      rw [e2, hp] at e'; cases e'
    · rcases List.mem_cons.mp m with rfl | m
      · exact ⟨hB, hG, o, upd_same, hs⟩
      · obtain ⟨a, b, o', e', s'⟩ := h.mem.at_ q m
        refine ⟨a, b, o', ?_, s'⟩
        rw [upd_ne (ne_of_none e' hp)]; exact e'
  rd := h.rd
/-- a new object, shared -/
theorem Holds.newSh (h : Holds F G Γ σ H) {p : Addr} {o : HO} (hp : H p = none) : Same G (upd G p o) ∧ Holds F (upd G p o) Γ σ (upd H p o) := by
  have hB : F.B p = none := h.bh.free hp
  have hG : G p = none := h.gh.free hp
  have sg : Same G (upd G p o) := fun b u e => by rw [upd_ne (ne_of_none e hG)]; exact e
  have sh : Same H (upd H p o) := fun b u e => by rw [upd_ne (ne_of_none e hp)]; exact e
  refine ⟨sg, h.g0.trans sg, fun b u e => ?_, h.bh.trans sh, h.gb, fun b u e => ?_, h.len, fun i d e => ?_, ⟨h.mem.nd, fun q m => ?_⟩, fun q m => ?_⟩
  · by_cases hb : b = p
    · subst hb; rw [upd_same] at e ⊢; exact e
    · rw [upd_ne hb] at e ⊢; exact h.gh _ _ e
  · by_cases hb : b = p
    · subst hb; exact .inr (.inl hB)
    · rw [upd_ne hb] at e; exact h.nw _ _ e
  · obtain ⟨v, a, b⟩ := h.sl i d e
    exact ⟨v, a, b.mono sg⟩
  · obtain ⟨a, b, o', e', s'⟩ := h.mem.at_ q m
    have ne : q.1 ≠ p := ne_of_none e' hp
    exact ⟨a, by rw [upd_ne ne]; exact b, o', by rw [upd_ne ne]; exact e', s'.mono sg⟩
  · obtain ⟨o', e', s'⟩ := h.rd q m
    exact ⟨o', e', s'.mono sg⟩
theorem nodup_ix' {l : List Addr} (hN : l.Nodup) {i j : Nat} {x : Addr} (a : l[i]? = some x) (b : l[j]? = some x) : i = j := by
  obtain ⟨h1, e1⟩ := List.getElem?_eq_some_iff.mp a
  obtain ⟨h2, e2⟩ := List.getElem?_eq_some_iff.mp b
  exact (List.getElem_inj hN).mp (e1.trans e2.symm)
/-- an owned object is written -/
theorem Holds.write (h : Holds F G Γ σ H) {k : Nat} {p : Addr} {c c' : D} {o' : HO} (m : Γ.M[k]? = some (p, c)) (hs : Shell G o' c') : Holds F G ⟨Γ.sl, Γ.M.set k (p, c'), Γ.R⟩ σ (upd H p o') := by
  have hm := List.mem_of_getElem? m
  obtain ⟨hB, hG, o, ho, _⟩ := h.mem.at_ _ hm
  refine ⟨h.g0, fun b u e => ?_, fun b u e => ?_, h.gb, h.nw, h.len, h.sl, ⟨?_, fun q mq => ?_⟩, h.rd⟩
  · rw [upd_ne (ne_of_none e hG)]; exact h.gh _ _ e
  · rw [upd_ne (ne_of_none e hB)]; exact h.bh _ _ e
  · have : (Γ.M.set k (p, c')).map (·.1) = Γ.M.map (·.1) := by
      rw [List.map_set]
      apply List.ext_getElem?
      intro j
      by_cases hj : k = j
      · subst hj
        rw [List.getElem?_set]
        simp only [if_pos]
        rw [List.getElem?_map, m]
        split
        · rfl
        · rename_i hl
          have := (List.getElem?_eq_some_iff.mp m).1
          simp at hl; omega
      · rw [List.getElem?_set_ne hj]
    show ((Γ.M.set k (p, c')).map (·.1)).Nodup
    rw [this]; exact h.mem.nd
  · obtain ⟨j, hj, ej⟩ := List.getElem_of_mem mq
    by_cases hk : k = j
    · subst hk
      have eq : q = (p, c') := by
        have := ej; simp at this; exact this.symm
      subst eq
      exact ⟨hB, hG, o', upd_same, hs⟩
    · have e0 : Γ.M[j]? = some q := by
        have h1 : (Γ.M.set k (p, c'))[j]? = some q := by
          rw [← ej]; exact List.getElem?_eq_getElem hj
        rw [List.getElem?_set_ne hk] at h1; exact h1
      obtain ⟨a, b, oq, e', s'⟩ := h.mem.at_ q (List.mem_of_getElem? e0)
      refine ⟨a, b, oq, ?_, s'⟩
      have ne : q.1 ≠ p := by
        intro e
        have h1 : (Γ.M.map (·.1))[j]? = some p := by rw [List.getElem?_map, e0, ← e]; rfl
        have h2 : (Γ.M.map (·.1))[k]? = some p := by rw [List.getElem?_map, m]; rfl
        exact hk (nodup_ix' h.mem.nd h2 h1)
      rw [upd_ne ne]; exact e'
/-- an owned object becomes a shared one; the slots say so -/
theorem Holds.freeze (h : Holds F G Γ σ H) {k : Nat} {p : Addr} {c : D} (m : Γ.M[k]? = some (p, c)) (hc : (∃ ds, c = .lst ds) ∨ ∃ ds, c = .tup ds) (fz : List (Option D))
    (hl : fz.length = Γ.sl.length) (hf : ∀ (i : Nat) d, fz[i]? = some (some d) → Γ.sl[i]? = some (some d) ∨ (Γ.sl[i]? = some (some (.ref p)) ∧ d = c)) :
    ∃ G', Same G G' ∧ Rep G' (.ref p) c ∧ Holds F G' ⟨fz, Γ.M.eraseIdx k, Γ.R⟩ σ H := by
  have hm := List.mem_of_getElem? m
  obtain ⟨hB, hG, o, ho, hs⟩ := h.mem.at_ _ hm
  have sg : Same G (upd G p o) := fun b u e => by rw [upd_ne (ne_of_none e hG)]; exact e
  have rp : Rep (upd G p o) (.ref p) c := Shell.rep upd_same (hs.mono sg) hc
  have sub : (Γ.M.eraseIdx k).Sublist Γ.M := List.eraseIdx_sublist _ _
  refine ⟨upd G p o, sg, rp, h.g0.trans sg, fun b u e => ?_, h.bh, h.gb, fun b u e => ?_, by rw [h.len, hl], fun i d e => ?_, ⟨?_, fun q mq => ?_⟩, fun q mq => ?_⟩
  · by_cases hb : b = p
    · subst hb; rw [upd_same] at e; cases e; exact ho
    · rw [upd_ne hb] at e; exact h.gh _ _ e
  · by_cases hb : b = p
    · subst hb; exact .inr (.inl hB)
    · rw [upd_ne hb] at e; exact h.nw _ _ e
  · rcases hf i d e with e1 | ⟨e1, rfl⟩
    · obtain ⟨v, a, b⟩ := h.sl i d e1
      exact ⟨v, a, b.mono sg⟩
    · obtain ⟨v, a, b⟩ := h.sl i _ e1
      cases b
      exact ⟨_, a, rp⟩
  · exact List.Nodup.sublist (sub.map _) h.mem.nd
  · obtain ⟨a, b, oq, e', s'⟩ := h.mem.at_ q (sub.subset mq)
    have ne : q.1 ≠ p := by
      intro e
      obtain ⟨j, hj, ej⟩ := List.getElem_of_mem mq
      have ej' : (Γ.M.eraseIdx k)[j]? = some q := by rw [← ej]; exact List.getElem?_eq_getElem hj
      rw [List.getElem?_eraseIdx] at ej'
      split at ej'
      · rename_i hlt
        have h1 : (Γ.M.map (·.1))[j]? = some p := by rw [List.getElem?_map, ej', ← e]; rfl
        have h2 : (Γ.M.map (·.1))[k]? = some p := by rw [List.getElem?_map, m]; rfl
        have := nodup_ix' h.mem.nd h2 h1
        omega
      · rename_i hlt
        have h1 : (Γ.M.map (·.1))[j + 1]? = some p := by rw [List.getElem?_map, ej', ← e]; rfl
        have h2 : (Γ.M.map (·.1))[k]? = some p := by rw [List.getElem?_map, m]; rfl
        have := nodup_ix' h.mem.nd h2 h1
        omega
    exact ⟨a, by rw [upd_ne ne]; exact b, oq, e', s'.mono sg⟩
  · obtain ⟨o', e', s'⟩ := h.rd q mq
    exact ⟨o', e', s'.mono sg⟩
theorem Holds.setSl (h : Holds F G Γ σ H) {v : V} {d : D} (r : Rep G v d) (i : Nat) : Holds F G ⟨Γ.sl.set i (some d), Γ.M, Γ.R⟩ (σ.set i (some v)) H := by
  refine ⟨h.g0, h.gh, h.bh, h.gb, h.nw, by rw [List.length_set, List.length_set, h.len], fun j e he => ?_, h.mem, h.rd⟩
  by_cases hj : i = j
  · subst hj
    have he' : (Γ.sl.set i (some d))[i]? = some (some e) := he
    rw [List.getElem?_set] at he'
    simp only [if_pos] at he'
    split at he'
    · rename_i hl
      cases he'
      refine ⟨v, ?_, r⟩
      rw [List.getElem?_set]
      simp only [if_pos]
      rw [if_pos (by rw [h.len]; exact hl)]
    · cases he'
  · have he' : (Γ.sl.set i (some d))[j]? = some (some e) := he
    rw [List.getElem?_set_ne hj] at he'
    obtain ⟨w, a, b⟩ := h.sl j e he'
    exact ⟨w, by rw [List.getElem?_set_ne hj]; exact a, b⟩
end
end DL

/-! The D layer, part 2: the judgements. -/
namespace DL
open PySem PySem.Spec PyProof.Rows L2

/-! ### the widest readings -/
def tU (X : Cx) (e : Expr) : TE := fun σ H Q => ∀ (pins : List (Addr × Obj)) (s : Shared), Inv X pins σ H s → wpAny (model X.prog X.w) X.A (eval e X.env) (EP X pins σ Q) X.xe s
def tUT (X : Cx) (e : Expr) : TT := fun σ H Q => ∀ (pins : List (Addr × Obj)) (s : Shared), Inv X pins σ H s → wpAny (model X.prog X.w) X.A (isTrue e X.env (eval e X.env)) (TP X pins σ Q) X.xe s
def tUW (X : Cx) (e : Expr) : TT := fun σ H Q => ∀ (whole : Sem Value) (pins : List (Addr × Obj)) (s : Shared), Inv X pins σ H s → wpAny (model X.prog X.w) X.A (isTrue e X.env whole) (TP X pins σ Q) X.xe s
def tUA (X : Cx) (es : List Expr) : TA := fun σ H Q => ∀ (pos : Pos) (pins : List (Addr × Obj)) (s : Shared), Inv X pins σ H s → wpAny (model X.prog X.w) X.A (spliced (backTo pos (starEach es X.env))) (AP X pins σ Q) X.xe s
def tUS (X : Cx) (st : Stmt) : TS := fun D σ H => ∀ (pins : List (Addr × Obj)) (s : Shared), Inv X pins σ H s → wpAny (model X.prog X.w) X.A (exec st X.env) (SP X pins D) X.xe s
def tUSs (X : Cx) (st : List Stmt) : TS := fun D σ H => ∀ (pins : List (Addr × Obj)) (s : Shared), Inv X pins σ H s → wpAny (model X.prog X.w) X.A (execs st X.env) (SP X pins D) X.xe s
def tUG (X : Cx) (tg : Expr) : TG := fun v σ H Q => ∀ (pins : List (Addr × Obj)) (s : Shared) (u : Value), Inv X pins σ H s → RelV v u → wpAny (model X.prog X.w) X.A (assign tg X.env u) (fun _ s' => ∃ σ' H', Inv X pins σ' H' s' ∧ Q σ' H') X.xe s
def tUGs (X : Cx) (ts : List Expr) : TGs := fun vs σ H Q => ∀ (pins : List (Addr × Obj)) (s : Shared) (us : List Value), Inv X pins σ H s → Vals vs us → wpAny (model X.prog X.w) X.A (assignInOrder ((assignEach ts X.env).map (·.2)) us) (fun _ s' => ∃ σ' H', Inv X pins σ' H' s' ∧ Q σ' H') X.xe s
section
variable {X : Cx}
theorem pe_U {e : Expr} : PE X e (tU X e) := ⟨fun pins s _ _ _ I h => h pins s I⟩
theorem pt_U {e : Expr} : PT X e (tUT X e) := ⟨fun pins s _ _ _ I h => h pins s I⟩
theorem pw_U {e : Expr} : PW X e (tUW X e) := ⟨fun wh pins s _ _ _ I h => h wh pins s I⟩
theorem pa_U {es : List Expr} : PA X es (tUA X es) := ⟨fun pos pins s _ _ _ I h => h pos pins s I⟩
theorem ps_U {st : Stmt} : PS X st (tUS X st) := ⟨fun pins s _ _ _ I h => h pins s I⟩
theorem pss_U {st : List Stmt} : PSs X st (tUSs X st) := ⟨fun pins s _ _ _ I h => h pins s I⟩
theorem pg_U {tg : Expr} : PG X tg (tUG X tg) := ⟨fun pins s _ _ _ u _ I r h => h pins s u I r⟩
theorem pgs_U {tg : List Expr} : PGs X tg (tUGs X tg) := ⟨fun pins s _ _ _ u _ I r h => h pins s u I r⟩
theorem tU_of {e : Expr} {t : TE} (h : PE X e t) {σ : L2.St} {H : Hp} {Q : VK} (q : t σ H Q) : tU X e σ H Q := fun pins s I => h.run pins s σ H Q I q
theorem tUT_of {e : Expr} {t : TT} (h : PT X e t) {σ : L2.St} {H : Hp} {Q : Bool → Hp → Prop} (q : t σ H Q) : tUT X e σ H Q := fun pins s I => h.run pins s σ H Q I q
theorem tUW_of {e : Expr} {t : TT} (h : PW X e t) {σ : L2.St} {H : Hp} {Q : Bool → Hp → Prop} (q : t σ H Q) : tUW X e σ H Q := fun wh pins s I => h.run wh pins s σ H Q I q
theorem tUA_of {es : List Expr} {t : TA} (h : PA X es t) {σ : L2.St} {H : Hp} {Q : List V → Hp → Prop} (q : t σ H Q) : tUA X es σ H Q := fun pos pins s I => h.run pos pins s σ H Q I q
theorem tUS_of {st : Stmt} {t : TS} (h : PS X st t) {D : Ends} {σ : L2.St} {H : Hp} (q : t D σ H) : tUS X st D σ H := fun pins s I => h.run pins s σ H D I q
theorem tUSs_of {st : List Stmt} {t : TS} (h : PSs X st t) {D : Ends} {σ : L2.St} {H : Hp} (q : t D σ H) : tUSs X st D σ H := fun pins s I => h.run pins s σ H D I q
theorem tUG_of {tg : Expr} {t : TG} (h : PG X tg t) {v : V} {σ : L2.St} {H : Hp} {Q : L2.St → Hp → Prop} (q : t v σ H Q) : tUG X tg v σ H Q := fun pins s u I r => h.run pins s σ H v u Q I r q
theorem tUGs_of {tg : List Expr} {t : TGs} (h : PGs X tg t) {v : List V} {σ : L2.St} {H : Hp} {Q : L2.St → Hp → Prop} (q : t v σ H Q) : tUGs X tg v σ H Q := fun pins s u I r => h.run pins s σ H v u Q I r q
end

/-! ### what is asked of a context -/
structure Std (X : Cx) : Prop where
  calm : X.calm = true
  nd : X.N.Nodup
  own : PassesOwn (model X.prog X.w) X.A X.env X.xe
  hu : X.A.units + 64 < cLine
theorem Std.hu1 {X : Cx} (h : Std X) : X.A.units + 1 < cLine := Nat.lt_of_le_of_lt (Nat.add_le_add_left (by decide : 1 ≤ 64) _) h.hu
structure NameAt (X : Cx) (i : Nat) (x : Str) : Prop where
  hN : X.N[i]? = some x
  vis : Vis X.env.scope x
  d1 : (x == ("__debug__" : Str)) = false
  d2 : (x == ("__classdict__" : Str)) = false
structure StoreAt (X : Cx) (i : Nat) (x : Str) : Prop where
  hN : X.N[i]? = some x
  loc : Loc X.env.scope x
  fn : X.fn x = true ∨ X.env.scope.names.lookup x = some .local

/-! ### the judgements -/
def Good (F : Fr) (Q : D → DL.Env → Prop) (G : Hp) (σ : L2.St) (R : VK) : Prop :=
  ∀ d Γ' G' v H', Q d Γ' → Same G G' → Holds F G' Γ' σ H' → Rep G' v d → R v H'
def GoodB (F : Fr) (Q : Bool → DL.Env → Prop) (G : Hp) (σ : L2.St) (R : Bool → Hp → Prop) : Prop :=
  ∀ d Γ' G' H', Q d Γ' → Same G G' → Holds F G' Γ' σ H' → R d H'
def GoodA (F : Fr) (Q : List D → DL.Env → Prop) (G : Hp) (σ : L2.St) (R : List V → Hp → Prop) : Prop :=
  ∀ d Γ' G' v H', Q d Γ' → Same G G' → Holds F G' Γ' σ H' → Reps G' v d → R v H'
def GoodG (F : Fr) (Q : DL.Env → Prop) (G : Hp) (R : L2.St → Hp → Prop) : Prop :=
  ∀ Γ' G' σ' H', Q Γ' → Same G G' → Holds F G' Γ' σ' H' → R σ' H'
structure Out where
  nx : DL.Env → Prop
  rt : D → DL.Env → Prop
  bk : DL.Env → Prop := fun _ => False
  ct : DL.Env → Prop := fun _ => False
structure GoodS (F : Fr) (O : Out) (G : Hp) (E : Ends) : Prop where
  nx : GoodG F O.nx G E.nx
  rt : ∀ d Γ' G' σ' v H', O.rt d Γ' → Same G G' → Holds F G' Γ' σ' H' → Rep G' v d → E.rt v H'
  bk : GoodG F O.bk G E.bk
  ct : GoodG F O.ct G E.ct
section
variable (X : Cx) (F : Fr)
/-- an expression -/
def WE (e : Expr) (Γ : DL.Env) (Q : D → DL.Env → Prop) : Prop := ∀ G σ H, Holds F G Γ σ H → ∀ R, Good F Q G σ R → tU X e σ H R
/-- a test -/
def WT (e : Expr) (Γ : DL.Env) (Q : Bool → DL.Env → Prop) : Prop := ∀ G σ H, Holds F G Γ σ H → ∀ R, GoodB F Q G σ R → tUT X e σ H R
def WW (e : Expr) (Γ : DL.Env) (Q : Bool → DL.Env → Prop) : Prop := ∀ G σ H, Holds F G Γ σ H → ∀ R, GoodB F Q G σ R → tUW X e σ H R
/-- arguments -/
def WA (es : List Expr) (Γ : DL.Env) (Q : List D → DL.Env → Prop) : Prop := ∀ G σ H, Holds F G Γ σ H → ∀ R, GoodA F Q G σ R → tUA X es σ H R
/-- a target -/
def WG (tg : Expr) (d : D) (Γ : DL.Env) (Q : DL.Env → Prop) : Prop := ∀ G σ H v, Holds F G Γ σ H → Rep G v d → ∀ R, GoodG F Q G R → tUG X tg v σ H R
def WGs (tg : List Expr) (ds : List D) (Γ : DL.Env) (Q : DL.Env → Prop) : Prop := ∀ G σ H vs, Holds F G Γ σ H → Reps G vs ds → ∀ R, GoodG F Q G R → tUGs X tg vs σ H R
/-- a statement, a block -/
def WS (st : Stmt) (Γ : DL.Env) (O : Out) : Prop := ∀ G σ H, Holds F G Γ σ H → ∀ E, GoodS F O G E → tUS X st E σ H
def WSs (st : List Stmt) (Γ : DL.Env) (O : Out) : Prop := ∀ G σ H, Holds F G Γ σ H → ∀ E, GoodS F O G E → tUSs X st E σ H
/-- an operation on two values -/
def WO (f : Value → Value → Sem Value) (d1 d2 : D) (Γ : DL.Env) (Q : D → DL.Env → Prop) : Prop :=
  ∀ G σ H x y, Holds F G Γ σ H → Rep G x d1 → Rep G y d2 → ∀ R, Good F Q G σ R → ∀ (pins : List (Addr × Obj)) (s : Shared) (v u : Value), Inv X pins σ H s → RelV x v → RelV y u →
    wpAny (model X.prog X.w) X.A (f v u) (EP X pins σ R) X.xe s
/-- .. on one -/
def WU (f : Value → Sem Value) (d1 : D) (Γ : DL.Env) (Q : D → DL.Env → Prop) : Prop :=
  ∀ G σ H x, Holds F G Γ σ H → Rep G x d1 → ∀ R, Good F Q G σ R → ∀ (pins : List (Addr × Obj)) (s : Shared) (v : Value), Inv X pins σ H s → RelV x v →
    wpAny (model X.prog X.w) X.A (f v) (EP X pins σ R) X.xe s
/-- .. on many: a call of a known value -/
def WC (f : Value) (ds : List D) (Γ : DL.Env) (Q : D → DL.Env → Prop) : Prop :=
  ∀ G σ H xs, Holds F G Γ σ H → Reps G xs ds → ∀ R, Good F Q G σ R → ∀ (pins : List (Addr × Obj)) (s : Shared) (us : List Value), Inv X pins σ H s → Vals xs us →
    wpAny (model X.prog X.w) X.A (call f us) (EP X pins σ R) X.xe s
end

section
variable {X : Cx} {F : Fr} {Γ : DL.Env} {Q Q' : D → DL.Env → Prop}
theorem we_mono {e : Expr} (h : WE X F e Γ Q) (q : ∀ d Γ', Q d Γ' → Q' d Γ') : WE X F e Γ Q' := fun G σ H hh R hR => h G σ H hh R fun d Γ' G' v H' a => hR d Γ' G' v H' (q _ _ a)
theorem wo_mono {f : Value → Value → Sem Value} {d1 d2 : D} (h : WO X F f d1 d2 Γ Q) (q : ∀ d Γ', Q d Γ' → Q' d Γ') : WO X F f d1 d2 Γ Q' :=
  fun G σ H x y hh r1 r2 R hR => h G σ H x y hh r1 r2 R fun d Γ' G' v H' a => hR d Γ' G' v H' (q _ _ a)
theorem Good.here {G : Hp} {σ : L2.St} {H : Hp} {R : VK} {d : D} {v : V} (hR : Good F Q G σ R) (h : Holds F G Γ σ H) (q : Q d Γ) (r : Rep G v d) : R v H := hR d Γ G v H q (Same.refl G) h r
theorem Good.later {G G' : Hp} {σ : L2.St} {R : VK} (hR : Good F Q G σ R) (e : Same G G') : Good F Q G' σ R := fun d Γ' G2 v H' q s => hR d Γ' G2 v H' q (e.trans s)
theorem GoodB.later {Q : Bool → DL.Env → Prop} {G G' : Hp} {σ : L2.St} {R : Bool → Hp → Prop} (hR : GoodB F Q G σ R) (e : Same G G') : GoodB F Q G' σ R := fun d Γ' G2 H' q s => hR d Γ' G2 H' q (e.trans s)
theorem GoodG.later {Q : DL.Env → Prop} {G G' : Hp} {R : L2.St → Hp → Prop} (hR : GoodG F Q G R) (e : Same G G') : GoodG F Q G' R := fun Γ' G2 σ' H' q s => hR Γ' G2 σ' H' q (e.trans s)
theorem GoodS.later {O : Out} {G G' : Hp} {E : Ends} (h : GoodS F O G E) (e : Same G G') : GoodS F O G' E :=
  ⟨h.nx.later e, fun d Γ' G2 σ' v H' q s => h.rt d Γ' G2 σ' v H' q (e.trans s), h.bk.later e, h.ct.later e⟩

/-! ### constants and names -/
theorem we_int {i : Int} {j : Nat} {pos : Pos} (q : Q (.int i) Γ) : WE X F (.Constant (.int i) j pos) Γ Q := fun G σ H hh R hR => tU_of pe_int (hR.here hh q (.int i))
theorem we_bl {i : Bool} {j : Nat} {pos : Pos} (q : Q (.bl i) Γ) : WE X F (.Constant (.bool i) j pos) Γ Q := fun G σ H hh R hR => tU_of pe_bl (hR.here hh q (.bl i))
theorem we_str {i : Str} {j : Nat} {pos : Pos} (q : Q (.str i) Γ) : WE X F (.Constant (.str i) j pos) Γ Q := fun G σ H hh R hR => tU_of pe_str (hR.here hh q (.str i))
theorem we_non {j : Nat} {pos : Pos} (q : Q .non Γ) : WE X F (.Constant .none j pos) Γ Q := fun G σ H hh R hR => tU_of pe_non (hR.here hh q .non)
theorem we_name {i : Nat} {x : Str} {pos : Pos} {d : D} (n : NameAt X i x) (e : Γ.sl[i]? = some (some d)) (q : Q d Γ) : WE X F (.Name x pos) Γ Q := fun G σ H hh R hR => by
  obtain ⟨v, a, b⟩ := hh.sl i d e
  exact tU_of (pe_var n.hN n.vis n.d1 n.d2) ⟨v, a, hR.here hh q b⟩
/-- a global that holds a plain constant -/
theorem we_glob {x : Str} {pos : Pos} {v : V} {u : Value} {d : D} (hg : Gl X x) (hm : X.mg x = some u) (r : RelV v u) (hd : (x == ("__debug__" : Str)) = false) (rd : ∀ G, Rep G v d) (q : Q d Γ) : WE X F (.Name x pos) Γ Q :=
  fun G σ H hh R hR => tU_of (pe_glob hg hm r hd) (hR.here hh q (rd G))

/-! ### operators -/
theorem we_bin {a b : Expr} {op : Operator} {pos : Pos} (h : WE X F a Γ fun d1 Γ1 => WE X F b Γ1 fun d2 Γ2 => WO X F (binaryOp op) d1 d2 Γ2 Q) : WE X F (.BinOp a op b pos) Γ Q := by
  intro G σ H hh R hR pins s I
  refine wpAny_BinOp (binT (R := fun x y H2 => ∀ (pins : List (Addr × Obj)) (s : Shared) (v u : Value), Inv X pins σ H2 s → RelV x v → RelV y u → wpAny (model X.prog X.w) X.A (binaryOp op v u) (EP X pins σ R) X.xe s)
    pe_U pe_U I ?_ fun v u s2 x y H2 I2 rx ry q => q _ _ _ _ I2 rx ry)
  refine h G σ H hh _ fun d1 Γ1 G1 v1 H1 q1 s1 h1 r1 => ?_
  refine q1 G1 σ H1 h1 _ fun d2 Γ2 G2 v2 H2 q2 s2 h2 r2 => ?_
  exact q2 G2 σ H2 v1 v2 h2 (r1.mono s2) r2 R (hR.later (s1.trans s2))
theorem we_un {a : Expr} {op : UnaryOp} {pos : Pos} (hne : op ≠ .Not) (h : WE X F a Γ fun d1 Γ1 => WU X F (unaryOp op) d1 Γ1 Q) : WE X F (.UnaryOp op a pos) Γ Q := by
  intro G σ H hh R hR
  intro pins s I
  refine UnaryOp_ (thn (pe_U.run pins s σ H (fun x H1 => ∀ (pins : List (Addr × Obj)) (s : Shared) (v : Value), Inv X pins σ H1 s → RelV x v → wpAny (model X.prog X.w) X.A (unaryOp op v) (EP X pins σ R) X.xe s) I ?_) fun v s1 ⟨x, H1, I1, r1, q1⟩ => q1 _ _ _ I1 r1)
  refine h G σ H hh _ fun d1 Γ1 G1 v1 H1 q1 s1 h1 r1 => ?_
  exact q1 G1 σ H1 v1 h1 r1 R (hR.later s1)
theorem we_cmp {a b : Expr} {op : CmpOp} {pos : Pos} (hm : behindInMarks op b = false) (h : WE X F a Γ fun d1 Γ1 => WE X F b Γ1 fun d2 Γ2 => WO X F (compareOp op) d1 d2 Γ2 Q) : WE X F (.Compare a [op] [b] pos) Γ Q := by
  intro G σ H hh R hR pins s I
  refine wpAny_Compare1 (binT (R := fun x y H2 => ∀ (pins : List (Addr × Obj)) (s : Shared) (v u : Value), Inv X pins σ H2 s → RelV x v → RelV y u → wpAny (model X.prog X.w) X.A (compareOp op v u) (EP X pins σ R) X.xe s)
    pe_U pe_U I ?_ fun v u s2 x y H2 I2 rx ry q => q _ _ _ _ I2 rx ry) hm
  refine h G σ H hh _ fun d1 Γ1 G1 v1 H1 q1 s1 h1 r1 => ?_
  refine q1 G1 σ H1 h1 _ fun d2 Γ2 G2 v2 H2 q2 s2 h2 r2 => ?_
  exact q2 G2 σ H2 v1 v2 h2 (r1.mono s2) r2 R (hR.later (s1.trans s2))
theorem wt_cmp {a b : Expr} {op : CmpOp} {pos : Pos} {Q : Bool → DL.Env → Prop} (hm : behindInMarks op b = false)
    (h : WE X F a Γ fun d1 Γ1 => WE X F b Γ1 fun d2 Γ2 => WO X F (compareOp op) d1 d2 Γ2 fun d Γ3 => ∃ c, d = .bl c ∧ Q c Γ3) : WT X F (.Compare a [op] [b] pos) Γ Q := by
  intro G σ H hh R hR pins s I
  refine wpAny_isTrue_Compare1 (thn (binT (R := fun x y H2 => ∀ (pins : List (Addr × Obj)) (s : Shared) (v u : Value), Inv X pins σ H2 s → RelV x v → RelV y u → wpAny (model X.prog X.w) X.A (compareOp op v u) (EP X pins σ fun v H => ∃ c, v = .bl c ∧ R c H) X.xe s)
    pe_U pe_U I ?_ fun v u s2 x y H2 I2 rx ry q => q _ _ _ _ I2 rx ry) fun v s1 h1 => thn h1 fun u s2 h2 => thn h2 fun c s3 ⟨x, H1, I1, r1, q1⟩ => ?_) hm
  · refine h G σ H hh _ fun d1 Γ1 G1 v1 H1 q1 s1 h1 r1 => ?_
    refine q1 G1 σ H1 h1 _ fun d2 Γ2 G2 v2 H2 q2 s2 h2 r2 => ?_
    refine q2 G2 σ H2 v1 v2 h2 (r1.mono s2) r2 _ fun d Γ' G' v H' q e hh r => ?_
    obtain ⟨c, rfl, q⟩ := q
    exact ⟨c, r.bl_inv, hR c Γ' G' H' q ((s1.trans s2).trans e) hh⟩
  · obtain ⟨d, rfl, q⟩ := q1
    cases r1
    exact wpAny_truthy_bool ⟨H1, I1, q⟩
/-- a test by a value that is a bool -/
theorem wt_val {e : Expr} {Q : Bool → DL.Env → Prop} (he : ∀ whole, isTrue e X.env whole = (do let v ← whole; standAt e.pos; holding [v] (truthy v))) (h : WE X F e Γ fun d Γ1 => ∃ c, d = .bl c ∧ Q c Γ1) : WT X F e Γ Q := by
  intro G σ H hh R hR
  refine tUT_of (pt_val pe_U he) (h G σ H hh _ fun d Γ' G' v H' q e hh r => ?_)
  obtain ⟨c, rfl, q⟩ := q
  exact ⟨c, r.bl_inv, hR c Γ' G' H' q e hh⟩
theorem wt_not {a : Expr} {pos : Pos} {Q : Bool → DL.Env → Prop} (h : WT X F a Γ fun c Γ1 => Q (!c) Γ1) : WT X F (.UnaryOp .Not a pos) Γ Q := by
  intro G σ H hh R hR
  exact tUT_of (pt_not pt_U) (h G σ H hh _ fun c Γ' G' H' q e hh => hR (!c) Γ' G' H' q e hh)
theorem wt_bool {op : BoolOp} {es : List Expr} {pos : Pos} {Q : Bool → DL.Env → Prop} (h : WW X F (.BoolOp op es pos) Γ Q) : WT X F (.BoolOp op es pos) Γ Q := fun G σ H hh R hR => tUT_of pw_U.pt (h G σ H hh R hR)
section
variable {a b : Expr} {rest : List Expr} {pos : Pos} {QB : Bool → DL.Env → Prop}
theorem ww_and1 (h : WT X F a Γ QB) : WW X F (.BoolOp .And [a] pos) Γ QB := fun G σ H hh R hR => tUW_of (pw_and1 pt_U) (h G σ H hh R hR)
theorem ww_or1 (h : WT X F a Γ QB) : WW X F (.BoolOp .Or [a] pos) Γ QB := fun G σ H hh R hR => tUW_of (pw_or1 pt_U) (h G σ H hh R hR)
theorem ww_and (h : WT X F a Γ fun c Γ1 => (c = true → WW X F (.BoolOp .And (b :: rest) pos) Γ1 QB) ∧ (c = false → QB false Γ1)) : WW X F (.BoolOp .And (a :: b :: rest) pos) Γ QB := fun G σ H hh R hR =>
  tUW_of (pw_and pt_U pw_U) (h G σ H hh _ fun c Γ' G' H' q e hh => by
    cases c with
    | true => exact q.1 rfl G' σ H' hh R (hR.later e)
    | false => exact hR false Γ' G' H' (q.2 rfl) e hh)
theorem ww_or (h : WT X F a Γ fun c Γ1 => (c = false → WW X F (.BoolOp .Or (b :: rest) pos) Γ1 QB) ∧ (c = true → QB true Γ1)) : WW X F (.BoolOp .Or (a :: b :: rest) pos) Γ QB := fun G σ H hh R hR =>
  tUW_of (pw_or pt_U pw_U) (h G σ H hh _ fun c Γ' G' H' q e hh => by
    cases c with
    | false => exact q.1 rfl G' σ H' hh R (hR.later e)
    | true => exact hR true Γ' G' H' (q.2 rfl) e hh)
theorem we_one {op : BoolOp} (h : WE X F a Γ Q) : WE X F (.BoolOp op [a] pos) Γ Q := fun G σ H hh R hR => tU_of (pe_one pe_U) (h G σ H hh R hR)
theorem we_and (h : WE X F a Γ fun d Γ1 => ∃ c, d = .bl c ∧ (c = true → WE X F (.BoolOp .And (b :: rest) pos) Γ1 Q) ∧ (c = false → Q (.bl false) Γ1)) : WE X F (.BoolOp .And (a :: b :: rest) pos) Γ Q := fun G σ H hh R hR =>
  tU_of (pe_and pe_U pe_U) (h G σ H hh _ fun d Γ' G' v H' q e hh r => by
    obtain ⟨c, rfl, q⟩ := q
    refine ⟨c, r.bl_inv, ?_⟩
    cases c with
    | true => exact q.1 rfl G' σ H' hh R (hR.later e)
    | false => exact hR _ Γ' G' _ H' (q.2 rfl) e hh (.bl false))
theorem we_or (h : WE X F a Γ fun d Γ1 => ∃ c, d = .bl c ∧ (c = false → WE X F (.BoolOp .Or (b :: rest) pos) Γ1 Q) ∧ (c = true → Q (.bl true) Γ1)) : WE X F (.BoolOp .Or (a :: b :: rest) pos) Γ Q := fun G σ H hh R hR =>
  tU_of (pe_or pe_U pe_U) (h G σ H hh _ fun d Γ' G' v H' q e hh r => by
    obtain ⟨c, rfl, q⟩ := q
    refine ⟨c, r.bl_inv, ?_⟩
    cases c with
    | false => exact q.1 rfl G' σ H' hh R (hR.later e)
    | true => exact hR _ Γ' G' _ H' (q.2 rfl) e hh (.bl true))
theorem we_not (h : WE X F a Γ fun d Γ1 => ∃ c, d = .bl c ∧ Q (.bl (!c)) Γ1) : WE X F (.UnaryOp .Not a pos) Γ Q := fun G σ H hh R hR =>
  tU_of (pe_not pe_U) (h G σ H hh _ fun d Γ' G' v H' q e hh r => by
    obtain ⟨c, rfl, q⟩ := q
    exact ⟨c, r.bl_inv, hR _ Γ' G' _ H' q e hh (.bl _)⟩)
theorem we_ifexp {t c : Expr} (h : WT X F t Γ fun k Γ1 => (k = true → WE X F a Γ1 Q) ∧ (k = false → WE X F c Γ1 Q)) : WE X F (.IfExp t a c pos) Γ Q := fun G σ H hh R hR =>
  tU_of (pe_ifExp pt_U pe_U pe_U) (h G σ H hh _ fun k Γ' G' H' q e hh => by
    cases k with
    | true => exact q.1 rfl G' σ H' hh R (hR.later e)
    | false => exact q.2 rfl G' σ H' hh R (hR.later e))
end

/-! ### arguments, displays -/
theorem wa_nil {Q : List D → DL.Env → Prop} (q : Q [] Γ) : WA X F [] Γ Q := fun G σ H hh R hR => tUA_of pa_nil (hR [] Γ G [] H q (Same.refl G) hh Reps.nil)
theorem wa_cons {a : Expr} {es : List Expr} {Q : List D → DL.Env → Prop} (hs : starEach (a :: es) X.env = (false, eval a X.env) :: starEach es X.env) (h : WE X F a Γ fun d Γ1 => WA X F es Γ1 fun ds Γ2 => Q (d :: ds) Γ2) : WA X F (a :: es) Γ Q := fun G σ H hh R hR =>
  tUA_of (pa_cons pe_U pa_U hs) (h G σ H hh _ fun d Γ1 G1 v H1 q s1 h1 r => q G1 σ H1 h1 _ fun ds Γ2 G2 vs H2 q2 s2 h2 r2 => hR (d :: ds) Γ2 G2 (v :: vs) H2 q2 (s1.trans s2) h2 (Reps.cons (r.mono s2) r2))
/-- a tuple -/
theorem we_tup {es : List Expr} {k : Nat} {pos : Pos} (h : WA X F es Γ fun ds Γ1 => ds.length ≤ sizeLine ∧ Q (.tup ds) Γ1) : WE X F (.Tuple es k pos) Γ Q := fun G σ H hh R hR =>
  tU_of (pe_tup pa_U) (h G σ H hh _ fun ds Γ1 G1 vs H1 q s1 h1 r => ⟨by rw [r.1]; exact q.1, fun p hp => by
    obtain ⟨sg, h2⟩ := h1.newSh (o := .tup vs) hp
    exact hR _ Γ1 _ _ _ q.2 (s1.trans sg) h2 (.tup upd_same r.1 fun i v d a b => (r.2 i v d a b).mono sg)⟩)
/-- a list that is shared from the start; one that is owned -/
theorem we_lstS {es : List Expr} {pos : Pos} (h : WA X F es Γ fun ds Γ1 => ds.length ≤ sizeLine ∧ Q (.lst ds) Γ1) : WE X F (.List es pos) Γ Q := fun G σ H hh R hR =>
  tU_of (pe_lst pa_U) (h G σ H hh _ fun ds Γ1 G1 vs H1 q s1 h1 r => ⟨by rw [r.1]; exact q.1, fun p hp => by
    obtain ⟨sg, h2⟩ := h1.newSh (o := .lst vs) hp
    exact hR _ Γ1 _ _ _ q.2 (s1.trans sg) h2 (.lst upd_same r.1 fun i v d a b => (r.2 i v d a b).mono sg)⟩)
theorem we_lst {es : List Expr} {pos : Pos} (h : WA X F es Γ fun ds Γ1 => ds.length ≤ sizeLine ∧ ∀ p, Q (.ref p) ⟨Γ1.sl, (p, .lst ds) :: Γ1.M, Γ1.R⟩) : WE X F (.List es pos) Γ Q := fun G σ H hh R hR =>
  tU_of (pe_lst pa_U) (h G σ H hh _ fun ds Γ1 G1 vs H1 q s1 h1 r => ⟨by rw [r.1]; exact q.1, fun p hp =>
    hR _ _ G1 _ _ (q.2 p) s1 (h1.newOwn hp (.lst r)) (.ref p)⟩)
end
end DL

/-! The D layer, part 3: places, statements, operations by the makes of values. -/
namespace DL
open PySem PySem.Spec PyProof.Rows L2

/-! ### places, found by the instances -/
class At (M : Mem) (p : Addr) (c : outParam D) (k : outParam Nat) : Prop where
  e : M[k]? = some (p, c)
instance At.tail {M : Mem} {p q : Addr} {c e : D} {k : Nat} [h : At M p c k] : At ((q, e) :: M) p c (k + 1) := ⟨h.e⟩
instance At.head {M : Mem} {p : Addr} {c : D} : At ((p, c) :: M) p c 0 := ⟨rfl⟩
class SetM (M : Mem) (k : Nat) (q : Addr × D) (M' : outParam Mem) : Prop where
  e : M' = M.set k q
instance SetM.tail {M M' : Mem} {q r : Addr × D} {k : Nat} [h : SetM M k q M'] : SetM (r :: M) (k + 1) q (r :: M') := ⟨by rw [h.e]; rfl⟩
instance SetM.head {M : Mem} {q r : Addr × D} : SetM (r :: M) 0 q (q :: M) := ⟨rfl⟩
class DelM (M : Mem) (k : Nat) (M' : outParam Mem) : Prop where
  e : M' = M.eraseIdx k
instance DelM.tail {M M' : Mem} {r : Addr × D} {k : Nat} [h : DelM M k M'] : DelM (r :: M) (k + 1) (r :: M') := ⟨by rw [h.e]; rfl⟩
instance DelM.head {M : Mem} {r : Addr × D} : DelM (r :: M) 0 M := ⟨rfl⟩
class SetS (l : List (Option D)) (i : Nat) (d : Option D) (l' : outParam (List (Option D))) : Prop where
  e : l' = l.set i d
instance SetS.tail {l l' : List (Option D)} {x d : Option D} {k : Nat} [h : SetS l k d l'] : SetS (x :: l) (k + 1) d (x :: l') := ⟨by rw [h.e]; rfl⟩
instance SetS.head {l : List (Option D)} {x d : Option D} : SetS (x :: l) 0 d (d :: l) := ⟨rfl⟩
/-- the slots that hold the place p are turned to c -/
class FzS (l : List (Option D)) (p : Addr) (c : D) (l' : outParam (List (Option D))) : Prop where
  len : l'.length = l.length
  at_ : ∀ (i : Nat) (d : D), l'[i]? = some (some d) → l[i]? = some (some d) ∨ (l[i]? = some (some (.ref p)) ∧ d = c)
instance FzS.nil {p : Addr} {c : D} : FzS [] p c [] := ⟨rfl, fun i d h => .inl h⟩
instance FzS.skip {l l' : List (Option D)} {p : Addr} {c : D} {x : Option D} [h : FzS l p c l'] : FzS (x :: l) p c (x :: l') := ⟨by rw [List.length_cons, List.length_cons, h.len], fun i d e => by
  cases i with
  | zero => exact .inl e
  | succ i => exact h.at_ i d e⟩
instance FzS.turn {l l' : List (Option D)} {p : Addr} {c : D} [h : FzS l p c l'] : FzS (some (.ref p) :: l) p c (some c :: l') := ⟨by rw [List.length_cons, List.length_cons, h.len], fun i d e => by
  cases i with
  | zero =>
    have e' : (some (some c) : Option (Option D)) = some (some d) := e
    cases e'
    exact .inr ⟨rfl, rfl⟩
  | succ i => exact h.at_ i d e⟩

class SeeL (M R : Mem) (d : D) (ds : outParam (List D)) : Prop where
  see : See M R d (.lst ds)
class SeeT (M R : Mem) (d : D) (ds : outParam (List D)) : Prop where
  see : See M R d (.tup ds)
class SeeK (M R : Mem) (d : D) (kvs : outParam (List (Key × D))) : Prop where
  see : See M R d (.dK kvs)
class SeeDT (M R : Mem) (d : D) (kvs : outParam (List (List Key × D))) : Prop where
  see : See M R d (.dT kvs)
section
variable {M R : Mem} {d : D} {p : Addr} {k : Nat}
instance SeeL.self {ds : List D} : SeeL M R (.lst ds) ds := ⟨.self _⟩
instance SeeL.rd {ds : List D} [h : At R p (.lst ds) k] : SeeL M R (.ref p) ds := ⟨.rd (List.mem_of_getElem? h.e)⟩
instance SeeL.own {ds : List D} [h : At M p (.lst ds) k] : SeeL M R (.ref p) ds := ⟨.own (List.mem_of_getElem? h.e)⟩
instance SeeT.rd {ds : List D} [h : At R p (.tup ds) k] : SeeT M R (.ref p) ds := ⟨.rd (List.mem_of_getElem? h.e)⟩
instance SeeT.self {ds : List D} : SeeT M R (.tup ds) ds := ⟨.self _⟩
instance SeeK.self {ds : List (Key × D)} : SeeK M R (.dK ds) ds := ⟨.self _⟩
instance SeeK.rd {ds : List (Key × D)} [h : At R p (.dK ds) k] : SeeK M R (.ref p) ds := ⟨.rd (List.mem_of_getElem? h.e)⟩
instance SeeK.own {ds : List (Key × D)} [h : At M p (.dK ds) k] : SeeK M R (.ref p) ds := ⟨.own (List.mem_of_getElem? h.e)⟩
instance SeeDT.self {ds : List (List Key × D)} : SeeDT M R (.dT ds) ds := ⟨.self _⟩
instance SeeDT.rd {ds : List (List Key × D)} [h : At R p (.dT ds) k] : SeeDT M R (.ref p) ds := ⟨.rd (List.mem_of_getElem? h.e)⟩
instance SeeDT.own {ds : List (List Key × D)} [h : At M p (.dT ds) k] : SeeDT M R (.ref p) ds := ⟨.own (List.mem_of_getElem? h.e)⟩
instance (priority := low) SeeL.any' {ds : List D} [h : SeeL [] R d ds] : SeeL M R d ds := ⟨h.see.any⟩
instance (priority := low) SeeT.any' {ds : List D} [h : SeeT [] R d ds] : SeeT M R d ds := ⟨h.see.any⟩
instance (priority := low) SeeK.any' {ds : List (Key × D)} [h : SeeK [] R d ds] : SeeK M R d ds := ⟨h.see.any⟩
instance (priority := low) SeeDT.any' {ds : List (List Key × D)} [h : SeeDT [] R d ds] : SeeDT M R d ds := ⟨h.see.any⟩
theorem see_wk {q : Addr × D} {d c : D} (h : See [] R d c) : See [] (q :: R) d c := by
  cases h with
  | self => exact .self _
  | own h => cases h
  | rd h => exact .rd (List.mem_cons_of_mem _ h)
instance (priority := low) SeeL.wk {q : Addr × D} {ds : List D} [h : SeeL [] R d ds] : SeeL [] (q :: R) d ds := ⟨see_wk h.see⟩
instance (priority := low) SeeT.wk {q : Addr × D} {ds : List D} [h : SeeT [] R d ds] : SeeT [] (q :: R) d ds := ⟨see_wk h.see⟩
instance (priority := low) SeeK.wk {q : Addr × D} {ds : List (Key × D)} [h : SeeK [] R d ds] : SeeK [] (q :: R) d ds := ⟨see_wk h.see⟩
instance (priority := low) SeeDT.wk {q : Addr × D} {ds : List (List Key × D)} [h : SeeDT [] R d ds] : SeeDT [] (q :: R) d ds := ⟨see_wk h.see⟩
theorem SeeL.any {ds : List D} (h : SeeL [] R d ds) : SeeL M R d ds := ⟨h.see.any⟩
theorem SeeT.any {ds : List D} (h : SeeT [] R d ds) : SeeT M R d ds := ⟨h.see.any⟩
theorem SeeK.any {ds : List (Key × D)} (h : SeeK [] R d ds) : SeeK M R d ds := ⟨h.see.any⟩
theorem SeeDT.any {ds : List (List Key × D)} (h : SeeDT [] R d ds) : SeeDT M R d ds := ⟨h.see.any⟩
end
/-- a sequence: a list or a tuple -/
class SeeQ (M R : Mem) (d : D) (ds : outParam (List D)) : Prop where
  see : See M R d (.lst ds) ∨ See M R d (.tup ds)
instance SeeQ.l {M R : Mem} {d : D} {ds : List D} [h : SeeL M R d ds] : SeeQ M R d ds := ⟨.inl h.see⟩
instance SeeQ.t {M R : Mem} {d : D} {ds : List D} [h : SeeT M R d ds] : SeeQ M R d ds := ⟨.inr h.see⟩

section
variable {X : Cx} {F : Fr} {Γ : DL.Env} {Q : D → DL.Env → Prop} {sl sl' : List (Option D)} {M M' R : Mem}

/-! ### targets and statements -/
/-- a slot is set -/
def Put (i : Nat) (d : D) (Γ : DL.Env) (q : DL.Env → Prop) : Prop := q ⟨Γ.sl.set i (some d), Γ.M, Γ.R⟩
theorem put_go {i : Nat} {d : D} {q : DL.Env → Prop} [h : SetS sl i (some d) sl'] (h2 : q ⟨sl', M, R⟩) : Put i d ⟨sl, M, R⟩ q := by
  show q ⟨sl.set i (some d), M, R⟩
  rw [← h.e]; exact h2
theorem wg_name {i : Nat} {x : Str} {pos : Pos} {d : D} {QG : DL.Env → Prop} (hX : Std X) (n : StoreAt X i x) (q : Put i d Γ QG) : WG X F (.Name x pos) d Γ QG := fun G σ H v hh r K hK =>
  tUG_of (pg_name hX.nd n.hN n.loc n.fn) (hK _ G _ H q (Same.refl G) (hh.setSl r i))
theorem wgs_nil {QG : DL.Env → Prop} (q : QG Γ) : WGs X F [] [] Γ QG := fun G σ H vs hh r K hK => by
  rw [r.nil_inv]
  exact tUGs_of pgs_nil ⟨rfl, hK Γ G σ H q (Same.refl G) hh⟩
theorem wgs_cons {e : Expr} {es : List Expr} {d : D} {ds : List D} {QG : DL.Env → Prop} (hs : (assignEach (e :: es) X.env).map (·.2) = assign e X.env :: (assignEach es X.env).map (·.2)) (h : WG X F e d Γ fun Γ1 => WGs X F es ds Γ1 QG) : WGs X F (e :: es) (d :: ds) Γ QG := fun G σ H vs hh r K hK => by
  obtain ⟨v, vr, rfl, ra, rb⟩ := r.cons_inv
  refine tUGs_of (pgs_cons pg_U pgs_U hs) ⟨v, vr, rfl, h G σ H v hh ra _ fun Γ' G' σ' H' q s h' => q G' σ' H' vr h' (rb.mono s) K (hK.later s)⟩
theorem wg_tup {es : List Expr} {k : Nat} {pos : Pos} {d : D} {ds : List D} {QG : DL.Env → Prop} (hX : Std X) [s : SeeT M R d ds] (hn : (assignEach es X.env).length = ds.length) (hst : (assignEach es X.env).findIdx? (·.1) = none) (h : WGs X F es ds ⟨sl, M, R⟩ QG) : WG X F (.Tuple es k pos) d ⟨sl, M, R⟩ QG := fun G σ H v hh r K hK => by
  obtain ⟨p, vs, rfl, hS, hr⟩ := hh.seeT (K := X.K) r s.see
  exact tUG_of (pg_tup hX.calm pgs_U hn hst) ⟨p, vs, rfl, hS, hr.1, h G σ H vs hh hr K hK⟩
theorem wss_nil {O : Out} (q : O.nx Γ) : WSs X F [] Γ O := fun G σ H hh E hE => tUSs_of pss_nil (hE.nx Γ G σ H q (Same.refl G) hh)
theorem wss_cons {st : Stmt} {rest : List Stmt} {O : Out} (h : WS X F st Γ { O with nx := fun Γ1 => WSs X F rest Γ1 O }) : WSs X F (st :: rest) Γ O := fun G σ H hh E hE =>
  tUSs_of (pss_cons ps_U pss_U) (h G σ H hh _ ⟨fun Γ1 G1 σ1 H1 q s h1 => q G1 σ1 H1 h1 E (hE.later s), hE.rt, hE.bk, hE.ct⟩)
/-- a word between: what follows is shown once -/
theorem wss_cut {st : Stmt} {rest : List Stmt} {O : Out} (Mid : DL.Env → Prop) (h : WS X F st Γ { O with nx := Mid }) (h2 : ∀ Γ1, Mid Γ1 → WSs X F rest Γ1 O) : WSs X F (st :: rest) Γ O := fun G σ H hh E hE =>
  tUSs_of (pss_cons ps_U pss_U) (h G σ H hh _ ⟨fun Γ1 G1 σ1 H1 q s h1 => h2 _ q G1 σ1 H1 h1 E (hE.later s), hE.rt, hE.bk, hE.ct⟩)
theorem ws_mono {st : Stmt} {O O' : Out} (h : WS X F st Γ O) (h1 : ∀ Γ, O.nx Γ → O'.nx Γ) (h2 : ∀ d Γ, O.rt d Γ → O'.rt d Γ) (h3 : ∀ Γ, O.bk Γ → O'.bk Γ) (h4 : ∀ Γ, O.ct Γ → O'.ct Γ) : WS X F st Γ O' := fun G σ H hh E hE =>
  h G σ H hh E ⟨fun Γ' G' σ' H' q => hE.nx Γ' G' σ' H' (h1 _ q), fun d Γ' G' σ' v H' q => hE.rt d Γ' G' σ' v H' (h2 _ _ q), fun Γ' G' σ' H' q => hE.bk Γ' G' σ' H' (h3 _ q), fun Γ' G' σ' H' q => hE.ct Γ' G' σ' H' (h4 _ q)⟩
theorem wss_mono {st : List Stmt} {O O' : Out} (h : WSs X F st Γ O) (h1 : ∀ Γ, O.nx Γ → O'.nx Γ) (h2 : ∀ d Γ, O.rt d Γ → O'.rt d Γ) (h3 : ∀ Γ, O.bk Γ → O'.bk Γ) (h4 : ∀ Γ, O.ct Γ → O'.ct Γ) : WSs X F st Γ O' := fun G σ H hh E hE =>
  h G σ H hh E ⟨fun Γ' G' σ' H' q => hE.nx Γ' G' σ' H' (h1 _ q), fun d Γ' G' σ' v H' q => hE.rt d Γ' G' σ' v H' (h2 _ _ q), fun Γ' G' σ' H' q => hE.bk Γ' G' σ' H' (h3 _ q), fun Γ' G' σ' H' q => hE.ct Γ' G' σ' H' (h4 _ q)⟩
theorem ws_asg {tg e : Expr} {pos : Pos} {O : Out} (hs : swapsWithSole [tg] e pos.line X.env = pure false) (hw : swappedStores [tg] e X.env = pure none) (h1 : (assignEach [tg] X.env).map (·.2) = [assign tg X.env]) (h : WE X F e Γ fun d Γ1 => WG X F tg d Γ1 O.nx) : WS X F (.Assign [tg] e pos) Γ O := fun G σ H hh E hE =>
  tUS_of (ps_asg pe_U pg_U hs hw h1) (h G σ H hh _ fun d Γ1 G1 v H1 q s h1 r => q G1 σ H1 v h1 r _ (hE.nx.later s))
/-- x = e -/
theorem ws_set {i : Nat} {x : Str} {e : Expr} {pos pos' : Pos} {O : Out} (hX : Std X) (n : StoreAt X i x) (hs : swapsWith e (some (.Name x pos')) pos.line X.env = pure false)
    (h : WE X F e Γ fun d Γ1 => Put i d Γ1 O.nx) : WS X F (.Assign [.Name x pos'] e pos) Γ O := fun G σ H hh E hE =>
  tUS_of (ps_set hX.nd n.hN n.loc pe_U hs n.fn) (h G σ H hh _ fun d Γ1 G1 v H1 q s h1 r => hE.nx _ G1 _ H1 q s (h1.setSl r i))
theorem ws_expr {e : Expr} {pos : Pos} {O : Out} (hs : swapsWith e none pos.line X.env = pure false) (h : WE X F e Γ fun _ Γ1 => O.nx Γ1) : WS X F (.Expr e pos) Γ O := fun G σ H hh E hE =>
  tUS_of (ps_expr pe_U hs) (h G σ H hh _ fun d Γ1 G1 v H1 q s h1 r => hE.nx Γ1 G1 σ H1 q s h1)
theorem ws_ret {e : Expr} {pos : Pos} {O : Out} (h : WE X F e Γ O.rt) : WS X F (.Return (some e) pos) Γ O := fun G σ H hh E hE =>
  tUS_of (ps_ret pe_U) (h G σ H hh _ fun d Γ1 G1 v H1 q s h1 r => hE.rt d Γ1 G1 σ v H1 q s h1 r)
theorem ws_retN {pos : Pos} {O : Out} (q : O.rt .non Γ) : WS X F (.Return none pos) Γ O := fun G σ H hh E hE => tUS_of ps_retN (hE.rt .non Γ G σ .non H q (Same.refl G) hh .non)
theorem ws_pass {pos : Pos} {O : Out} (q : O.nx Γ) : WS X F (.Pass pos) Γ O := fun G σ H hh E hE => tUS_of ps_pass (hE.nx Γ G σ H q (Same.refl G) hh)
theorem ws_break {pos : Pos} {O : Out} (q : O.bk Γ) : WS X F (.Break pos) Γ O := fun G σ H hh E hE => tUS_of ps_break (hE.bk Γ G σ H q (Same.refl G) hh)
theorem ws_continue {pos : Pos} {O : Out} (q : O.ct Γ) : WS X F (.Continue pos) Γ O := fun G σ H hh E hE => tUS_of ps_continue (hE.ct Γ G σ H q (Same.refl G) hh)
theorem ws_if {c : Expr} {a b : List Stmt} {pos : Pos} {O : Out} (h : WT X F c Γ fun k Γ1 => (k = true → WSs X F a Γ1 O) ∧ (k = false → WSs X F b Γ1 O)) : WS X F (.If c a b pos) Γ O := fun G σ H hh E hE =>
  tUS_of (ps_if pt_U pss_U pss_U) (h G σ H hh _ fun k Γ1 G1 H1 q s h1 => by
    cases k with
    | true => exact q.1 rfl G1 σ H1 h1 E (hE.later s)
    | false => exact q.2 rfl G1 σ H1 h1 E (hE.later s))
/-- a while: the word by a measure -/
theorem ws_while {c : Expr} {body : List Stmt} {pos : Pos} {O : Out} (hX : Std X) (W : Nat → DL.Env → Prop) (h0 : ∃ m, W m Γ)
    (hs : ∀ m Γ1, W m Γ1 → WT X F c Γ1 fun k Γ2 => (k = true → WSs X F body Γ2 { nx := fun Γ3 => ∃ m', m' < m ∧ W m' Γ3, rt := O.rt, bk := O.nx, ct := fun Γ3 => ∃ m', m' < m ∧ W m' Γ3 }) ∧ (k = false → O.nx Γ2)) : WS X F (.While c body [] pos) Γ O := fun G σ H hh E hE => by
  refine tUS_of (ps_while hX.own pt_U pss_U) ?_
  obtain ⟨m0, w0⟩ := h0
  refine ⟨fun m σ1 H1 => ∃ Γ1 G1, Same G G1 ∧ Holds F G1 Γ1 σ1 H1 ∧ W m Γ1, ⟨m0, Γ, G, Same.refl G, hh, w0⟩, fun m σ1 H1 hW => ?_⟩
  obtain ⟨Γ1, G1, s1, h1, w1⟩ := hW
  refine hs m Γ1 w1 G1 σ1 H1 h1 _ fun k Γ2 G2 H2 q s2 h2 => ?_
  cases k with
  | false => exact hE.nx Γ2 G2 σ1 H2 (q.2 rfl) (s1.trans s2) h2
  | true =>
    refine ⟨fun σ3 H3 => ∃ m', m' < m ∧ ∃ Γ3 G3, Same G G3 ∧ Holds F G3 Γ3 σ3 H3 ∧ W m' Γ3, fun σ3 H3 hN => hN, q.1 rfl G2 σ1 H2 h2 _ ⟨?_, ?_, ?_, ?_⟩⟩
    · exact fun Γ3 G3 σ3 H3 ⟨m', hm, w⟩ s3 h3 => ⟨m', hm, Γ3, G3, (s1.trans s2).trans s3, h3, w⟩
    · exact fun d Γ3 G3 σ3 v H3 q3 s3 h3 r3 => hE.rt d Γ3 G3 σ3 v H3 q3 ((s1.trans s2).trans s3) h3 r3
    · exact fun Γ3 G3 σ3 H3 q3 s3 h3 => hE.nx Γ3 G3 σ3 H3 q3 ((s1.trans s2).trans s3) h3
    · exact fun Γ3 G3 σ3 H3 ⟨m', hm, w⟩ s3 h3 => ⟨m', hm, Γ3, G3, (s1.trans s2).trans s3, h3, w⟩

/-! ### what is walked -/
def ItSem (F : Fr) (G1 : Hp) (J : It) (items : List D) (stand : DL.Env → Prop) : Prop :=
  ∀ Γ' G' σ' H', Same G1 G' → Holds F G' Γ' σ' H' → stand Γ' → J.stop items.length H' ∧ ∀ (i : Nat) x, items[i]? = some x → J.go i H' ∧ ∀ v H'', J.yld i H' v H'' → ∃ G'', Same G' G'' ∧ Holds F G'' Γ' σ' H'' ∧ Rep G'' v x
def GoodI (F : Fr) (K : List D → (DL.Env → Prop) → DL.Env → Prop) (G : Hp) (σ : L2.St) (R : It → Hp → Prop) : Prop :=
  ∀ items stand Γ1 G1 H1 J, K items stand Γ1 → Same G G1 → Holds F G1 Γ1 σ H1 → ItSem F G1 J items stand → R J H1
def WI (X : Cx) (F : Fr) (tg iter : Expr) (Γ : DL.Env) (K : List D → (DL.Env → Prop) → DL.Env → Prop) : Prop := ∀ G σ H, Holds F G Γ σ H → ∀ R, GoodI F K G σ R → ∀ (pins : List (Addr × Obj)) (s : Shared), Inv X pins σ H s →
  wpAny (model X.prog X.w) X.A (eval iter X.env) (fun v s1 => wpAny (model X.prog X.w) X.A (pyIter v) (PIE X pins σ tg R) X.xe s1) X.xe s
def WIV (X : Cx) (F : Fr) (tg : Expr) (d : D) (Γ : DL.Env) (K : List D → (DL.Env → Prop) → DL.Env → Prop) : Prop := ∀ G σ H x, Holds F G Γ σ H → Rep G x d → ∀ R, GoodI F K G σ R → ∀ (pins : List (Addr × Obj)) (s : Shared) (v : Value), Inv X pins σ H s → RelV x v →
  wpAny (model X.prog X.w) X.A (pyIter v) (PIE X pins σ tg R) X.xe s
def tUI (X : Cx) (tg iter : Expr) : TI := fun σ H R => ∀ (pins : List (Addr × Obj)) (s : Shared), Inv X pins σ H s → wpAny (model X.prog X.w) X.A (eval iter X.env) (fun v s1 => wpAny (model X.prog X.w) X.A (pyIter v) (PIE X pins σ tg R) X.xe s1) X.xe s
theorem pi_U {tg iter : Expr} : PI X tg iter (tUI X tg iter) := ⟨fun pins s _ _ _ I h => h pins s I⟩
variable {K : List D → (DL.Env → Prop) → DL.Env → Prop} {tg iter : Expr}
theorem wi_val (h : WE X F iter Γ fun d Γ1 => WIV X F tg d Γ1 K) : WI X F tg iter Γ K := fun G σ H hh R hR pins s I => by
  refine thn (pe_U.run pins s σ H (fun x H1 => ∀ (pins : List (Addr × Obj)) (s : Shared) (v : Value), Inv X pins σ H1 s → RelV x v → wpAny (model X.prog X.w) X.A (pyIter v) (PIE X pins σ tg R) X.xe s) I ?_) fun v s1 ⟨x, H1, I1, r1, q1⟩ => q1 pins s1 v I1 r1
  exact h G σ H hh _ fun d Γ1 G1 v1 H1 q s1 h1 r1 => q G1 σ H1 v1 h1 r1 R fun items stand Γ2 G2 H2 J k s2 => hR items stand Γ2 G2 H2 J k (s1.trans s2)
theorem wiv_list {d : D} {ds : List D} [sd : SeeL M R d ds] (h : K ds (fun Γ' => See Γ'.M Γ'.R d (.lst ds)) ⟨sl, M, R⟩) : WIV X F tg d ⟨sl, M, R⟩ K := fun G σ H x hh r Q hQ pins s v I rv => by
  obtain ⟨p, vs, rfl, hS, hr⟩ := hh.seeL (K := X.K) r sd.see
  cases rv
  obtain ⟨its, rvs, pr, hz⟩ := I.list hS
  refine wpAny_pyIter_list pr.isList ?_
  refine ⟨s.heap.objs.size, [s.heap.objs.size], _, _, H, rfl, I.kept (t' := s.toks) fun b o e => Heap.get?_push_of_some _ e, turn_list p _, ⟨_, Heap.get?_push_size _ rfl, rfl, rfl⟩, fun b hb => ?_, hQ ds _ _ G H _ h (Same.refl G) hh ?_⟩
  · have e : b = s.heap.objs.size := by simpa using hb
    subst e
    exact I.fpOk (Nat.le_refl _) (I.hok.fresh (Nat.le_refl _))
  · intro Γ' G' σ' H' sg h' st
    obtain ⟨p', vs', e', hS', hr'⟩ := h'.seeL (K := X.K) (r.mono sg) st
    cases e'
    refine ⟨⟨vs', hS', by rw [hr'.1]; exact Nat.le_refl _⟩, fun i y hy => ?_⟩
    obtain ⟨w, hw, rw'⟩ := hr'.get hy
    exact ⟨⟨vs', w, hS', hw⟩, fun u H'' ⟨e1, e2⟩ => ⟨G', Same.refl G', by rw [e1]; exact h', by
      have := e2 vs' hS'
      rw [hw] at this; cases this; exact rw'⟩⟩
theorem wiv_tup {d : D} {ds : List D} [sd : SeeT M R d ds] (h : K ds (fun Γ' => See Γ'.M Γ'.R d (.tup ds)) ⟨sl, M, R⟩) : WIV X F tg d ⟨sl, M, R⟩ K := fun G σ H x hh r Q hQ pins s v I rv => by
  obtain ⟨p, vs, rfl, hS, hr⟩ := hh.seeT (K := X.K) r sd.see
  cases rv
  have hp := (pi_tup (tg := tg) (X := X) (l := .Constant .none 0 ⟨0, 0, 0, 0⟩) (tl := fun σ' H' Q' => False) ⟨fun _ _ _ _ _ _ z => z.elim⟩)
  obtain ⟨its, rvs, pr, hz⟩ := I.tuple hS
  refine wpAny_pyIter_tuple pr ?_
  refine ⟨s.heap.objs.size, [s.heap.objs.size], _, _, H, rfl, I.kept (t' := s.toks) fun b o e => Heap.get?_push_of_some _ e, turn_tuple p _, ⟨_, Heap.get?_push_size _ rfl, rfl, rfl⟩, fun b hb => ?_, hQ ds _ _ G H _ h (Same.refl G) hh ?_⟩
  · have e : b = s.heap.objs.size := by simpa using hb
    subst e
    exact I.fpOk (Nat.le_refl _) (I.hok.fresh (Nat.le_refl _))
  · intro Γ' G' σ' H' sg h' st
    obtain ⟨p', vs', e', hS', hr'⟩ := h'.seeT (K := X.K) (r.mono sg) st
    cases e'
    refine ⟨⟨vs', hS', by rw [hr'.1]; exact Nat.le_refl _⟩, fun i y hy => ?_⟩
    obtain ⟨w, hw, rw'⟩ := hr'.get hy
    exact ⟨⟨vs', w, hS', hw⟩, fun u H'' ⟨e1, e2⟩ => ⟨G', Same.refl G', by rw [e1]; exact h', by
      have := e2 vs' hS'
      rw [hw] at this; cases this; exact rw'⟩⟩
/-- the ints lo, lo + 1, .. (n of them) -/
def rngD (lo : Int) (n : Nat) : List D := (List.range n).map fun (i : Nat) => D.int (lo + (i : Int))
theorem rngD_len {lo : Int} {n : Nat} : (rngD lo n).length = n := by unfold rngD; rw [List.length_map, List.length_range]
theorem rngD_at {lo : Int} {n i : Nat} {x : D} (h : (rngD lo n)[i]? = some x) : i < n ∧ x = .int (lo + (i : Int)) := by
  unfold rngD at h
  rw [List.getElem?_map] at h
  obtain ⟨y, e, rfl⟩ := Option.map_eq_some_iff.mp h
  obtain ⟨hy, e2⟩ := List.getElem?_eq_some_iff.mp e
  rw [List.length_range] at hy
  rw [List.getElem_range] at e2
  subst e2
  exact ⟨hy, rfl⟩
theorem itSem_range {G1 : Hp} {lo : Int} {n : Nat} : ItSem F G1 (Itr lo n) (rngD lo n) fun _ => True := by
  intro Γ' G' σ' H' sg h' _
  refine ⟨by rw [rngD_len]; exact Nat.le_refl _, fun i x hx => ?_⟩
  obtain ⟨hi, rfl⟩ := rngD_at hx
  exact ⟨hi, fun v H'' ⟨e1, e2⟩ => ⟨G', Same.refl G', by rw [e1]; exact h', by rw [e2]; exact .int _⟩⟩
theorem wi_range1 {a : Expr} {p pos : Pos} (hg : Gl X "range") (hm : X.mg "range" = none) (hs : starEach [a] X.env = [(false, eval a X.env)])
    (h : WE X F a Γ fun d Γ1 => ∃ j : Int, d = .int j ∧ (-(2 ^ 62) ≤ j ∧ j < 2 ^ 62) ∧ K (rngD 0 j.toNat) (fun _ => True) Γ1) : WI X F tg (.Call (.Name "range" p) [a] [] pos) Γ K := fun G σ H hh R hR pins s I => by
  refine (pi_range1 (tg := tg) hg hm (pa_cons pe_U pa_nil (by rw [hs]; rfl)) hs).run pins s σ H R I ?_
  refine h G σ H hh _ fun d Γ1 G1 v H1 q s1 h1 r => ?_
  obtain ⟨j, rfl, ⟨b1, b2⟩, k⟩ := q
  rw [r.int_inv]
  exact ⟨j, rfl, b1, b2, hR _ _ Γ1 G1 H1 _ k s1 h1 itSem_range⟩
theorem wi_range2 {a b : Expr} {p pos : Pos} (hg : Gl X "range") (hm : X.mg "range" = none) (hs : starEach [a, b] X.env = [(false, eval a X.env), (false, eval b X.env)]) (hs2 : starEach [b] X.env = [(false, eval b X.env)])
    (h : WE X F a Γ fun d Γ1 => ∃ i : Int, d = .int i ∧ WE X F b Γ1 fun e Γ2 => ∃ j : Int, e = .int j ∧ (-(2 ^ 62) ≤ i ∧ i < 2 ^ 62 ∧ -(2 ^ 62) ≤ j ∧ j < 2 ^ 62) ∧ K (rngD i (j - i).toNat) (fun _ => True) Γ2) :
    WI X F tg (.Call (.Name "range" p) [a, b] [] pos) Γ K := fun G σ H hh R hR pins s I => by
  refine (pi_range2 (tg := tg) hg hm (pa_cons pe_U (pa_cons pe_U pa_nil (by rw [hs2]; rfl)) (by rw [hs, hs2])) hs hs2).run pins s σ H R I ?_
  refine h G σ H hh _ fun d Γ1 G1 v H1 q s1 h1 r => ?_
  obtain ⟨i, rfl, q⟩ := q
  refine q G1 σ H1 h1 _ fun e Γ2 G2 u H2 q2 s2 h2 r2 => ?_
  obtain ⟨j, rfl, b1, k⟩ := q2
  rw [r.int_inv, r2.int_inv]
  exact ⟨i, j, rfl, b1, hR _ _ Γ2 G2 H2 _ k (s1.trans s2) h2 itSem_range⟩
/-- a for: the word by the turn -/
theorem ws_for {body : List Stmt} {pos : Pos} {O : Out} (hX : Std X) (hs : ∀ x, foldedSetIterable iter X.env x = pure x)
    (h : WI X F tg iter Γ fun items stand Γ1 => ∃ W : Nat → DL.Env → Prop, W 0 Γ1 ∧ (∀ i Γ', W i Γ' → stand Γ') ∧
      (∀ (i : Nat) x Γ', items[i]? = some x → W i Γ' → WG X F tg x Γ' fun Γ2 => WSs X F body Γ2 { nx := W (i + 1), rt := O.rt, bk := O.nx, ct := W (i + 1) }) ∧ ∀ Γ', W items.length Γ' → O.nx Γ') : WS X F (.For tg iter body [] pos) Γ O := fun G σ H hh E hE => by
  refine tUS_of (ps_for (g := tUG X tg) (tb := tUSs X body) (wi := tUI X tg iter) hX.own hX.calm pi_U pg_U pss_U hs) ?_
  refine h G σ H hh _ fun items stand Γ1 G1 H1 J q s1 h1 js => ?_
  obtain ⟨W, w0, wst, turn, done⟩ := q
  refine ⟨fun i m σ' H' => i + m = items.length ∧ ∃ Γ' G', Same G1 G' ∧ Holds F G' Γ' σ' H' ∧ W i Γ', ⟨items.length, by omega, Γ1, G1, Same.refl _, h1, w0⟩, fun i m σ' H' hW => ?_⟩
  obtain ⟨em, Γ', G', sg, h', w⟩ := hW
  obtain ⟨stop, go⟩ := js Γ' G' σ' H' sg h' (wst i Γ' w)
  by_cases hi : i < items.length
  · obtain ⟨g1, g2⟩ := go i items[i] (List.getElem?_eq_getElem hi)
    refine .inr ⟨g1, fun σ3 H3 => ∃ Γ3 G3, Same G1 G3 ∧ Holds F G3 Γ3 σ3 H3 ∧ W (i + 1) Γ3, fun σ3 H3 ⟨Γ3, G3, a, b, c⟩ => ⟨m - 1, by omega, by omega, Γ3, G3, a, b, c⟩, fun v H'' y => ?_⟩
    obtain ⟨G2, s2, h2, r2⟩ := g2 v H'' y
    refine turn i _ Γ' (List.getElem?_eq_getElem hi) w G2 σ' H'' v h2 r2 _ fun Γ2 G3 σ2 H2 q2 s3 h3 => ?_
    refine q2 G3 σ2 H2 h3 _ ⟨?_, ?_, ?_, ?_⟩
    · exact fun Γ4 G4 σ4 H4 q4 s4 h4 => ⟨Γ4, G4, ((sg.trans s2).trans s3).trans s4, h4, q4⟩
    · exact fun d Γ4 G4 σ4 v4 H4 q4 s4 h4 r4 => hE.rt d Γ4 G4 σ4 v4 H4 q4 ((((s1.trans sg).trans s2).trans s3).trans s4) h4 r4
    · exact fun Γ4 G4 σ4 H4 q4 s4 h4 => hE.nx Γ4 G4 σ4 H4 q4 ((((s1.trans sg).trans s2).trans s3).trans s4) h4
    · exact fun Γ4 G4 σ4 H4 q4 s4 h4 => ⟨Γ4, G4, ((sg.trans s2).trans s3).trans s4, h4, q4⟩
  · have ei : i = items.length := by omega
    subst ei
    exact .inl ⟨stop, hE.nx Γ' G' σ' H' (done Γ' w) (s1.trans sg) h'⟩
end
end DL

/-! The D layer, part 4: sharing, defs and their calls, subscripts, built-ins. -/
namespace DL
open PySem PySem.Spec PyProof.Rows L2

section
variable {X : Cx} {F : Fr} {Γ : DL.Env} {Q : D → DL.Env → Prop} {sl sl' : List (Option D)} {M M' R : Mem}

/-! ### an owned list becomes a shared one -/
def Fz (F : Fr) (d : D) (Γ : DL.Env) (Q : D → DL.Env → Prop) : Prop := ∀ G σ H v, Holds F G Γ σ H → Rep G v d → ∃ Γ' G' d', Q d' Γ' ∧ Same G G' ∧ Holds F G' Γ' σ H ∧ Rep G' v d'
theorem fz_id {d : D} (q : Q d Γ) : Fz F d Γ Q := fun G σ H v hh r => ⟨Γ, G, d, q, Same.refl G, hh, r⟩
theorem fz_lst {p : Addr} {ds : List D} {k : Nat} [h : At M p (.lst ds) k] [h2 : DelM M k M'] [h3 : FzS sl p (.lst ds) sl'] (q : Q (.lst ds) ⟨sl', M', R⟩) : Fz F (.ref p) ⟨sl, M, R⟩ Q := fun G σ H v hh r => by
  obtain ⟨G', sg, rp, h'⟩ := hh.freeze h.e (.inl ⟨_, rfl⟩) sl' h3.len h3.at_
  rw [r.ref_inv]
  refine ⟨_, G', _, q, sg, ?_, rp⟩
  rw [h2.e]; exact h'
theorem fz_tup {p : Addr} {ds : List D} {k : Nat} [h : At M p (.tup ds) k] [h2 : DelM M k M'] [h3 : FzS sl p (.tup ds) sl'] (q : Q (.tup ds) ⟨sl', M', R⟩) : Fz F (.ref p) ⟨sl, M, R⟩ Q := fun G σ H v hh r => by
  obtain ⟨G', sg, rp, h'⟩ := hh.freeze h.e (.inr ⟨_, rfl⟩) sl' h3.len h3.at_
  rw [r.ref_inv]
  refine ⟨_, G', _, q, sg, ?_, rp⟩
  rw [h2.e]; exact h'
theorem we_fz {e : Expr} (h : WE X F e Γ fun d Γ1 => Fz F d Γ1 Q) : WE X F e Γ Q := fun G σ H hh R hR => h G σ H hh R fun d Γ1 G1 v H1 q s1 h1 r => by
  obtain ⟨Γ2, G2, d2, q2, s2, h2, r2⟩ := q G1 σ H1 v h1 r
  exact hR d2 Γ2 G2 v H1 q2 (s1.trans s2) h2 r2
/-- arguments that are to be shared -/
def WAV (X : Cx) (F : Fr) (es : List Expr) (Γ : DL.Env) (Q : List D → DL.Env → Prop) : Prop := WA X F es Γ Q
theorem wav_nil {Q : List D → DL.Env → Prop} (q : Q [] Γ) : WAV X F [] Γ Q := wa_nil q
theorem wav_cons {a : Expr} {es : List Expr} {Q : List D → DL.Env → Prop} (hs : starEach (a :: es) X.env = (false, eval a X.env) :: starEach es X.env) (h : WE X F a Γ fun d Γ1 => Fz F d Γ1 fun d Γ1 => WAV X F es Γ1 fun ds Γ2 => Q (d :: ds) Γ2) : WAV X F (a :: es) Γ Q := wa_cons hs (we_fz h)
theorem we_tupV {es : List Expr} {k : Nat} {pos : Pos} (h : WAV X F es Γ fun ds Γ1 => ds.length ≤ sizeLine ∧ Q (.tup ds) Γ1) : WE X F (.Tuple es k pos) Γ Q := we_tup h
theorem we_lstV {es : List Expr} {pos : Pos} (h : WAV X F es Γ fun ds Γ1 => ds.length ≤ sizeLine ∧ ∀ p, Q (.ref p) ⟨Γ1.sl, (p, .lst ds) :: Γ1.M, Γ1.R⟩) : WE X F (.List es pos) Γ Q := we_lst h

/-! ### subscripts -/
def WX (X : Cx) (F : Fr) (a b : Expr) (d1 d2 : D) (Γ : DL.Env) (Q : D → DL.Env → Prop) : Prop :=
  ∀ G σ H x y, Holds F G Γ σ H → Rep G x d1 → Rep G y d2 → ∀ R, Good F Q G σ R → ∀ (pins : List (Addr × Obj)) (s : Shared) (v u : Value), Inv X pins σ H s → RelV x v → RelV y u → subscripted b false v u = operate [v, u] (getItem v u) →
    wpAny (model X.prog X.w) X.A (subscriptTail a b v u) (EP X pins σ R) X.xe s
theorem we_ix {a b : Expr} {pos : Pos} (hs : PlainIx b) (h : WE X F a Γ fun d1 Γ1 => WE X F b Γ1 fun d2 Γ2 => WX X F a b d1 d2 Γ2 Q) : WE X F (.Subscript a b pos) Γ Q := by
  intro G σ H hh R hR pins s I
  refine Subscript_ (binT (R := fun x y H2 => ∀ (pins : List (Addr × Obj)) (s : Shared) (v u : Value), Inv X pins σ H2 s → RelV x v → RelV y u → subscripted b false v u = operate [v, u] (getItem v u) → wpAny (model X.prog X.w) X.A (subscriptTail a b v u) (EP X pins σ R) X.xe s)
    pe_U pe_U I ?_ fun v u s2 x y H2 I2 rx ry q => q _ _ _ _ I2 rx ry (hs _ _))
  refine h G σ H hh _ fun d1 Γ1 G1 v1 H1 q1 s1 h1 r1 => ?_
  refine q1 G1 σ H1 h1 _ fun d2 Γ2 G2 v2 H2 q2 s2 h2 r2 => ?_
  exact q2 G2 σ H2 v1 v2 h2 (r1.mono s2) r2 R (hR.later (s1.trans s2))
variable {ea eb : Expr}
theorem atI_rep {G : Hp} {vs : List V} {ds : List D} (r : Reps G vs ds) {i : Int} {x : D} (h : atI ds i = some x) : ∃ v, atI vs i = some v ∧ Rep G v x := by
  unfold atI at h ⊢
  rw [r.1]
  cases e : ixN ds.length i with
  | none => rw [e] at h; cases h
  | some j =>
    rw [e] at h
    exact r.get h
theorem wx_list {d : D} {ds : List D} {i : Int} {x : D} [sd : SeeL M R d ds] (ha : atI ds i = some x) (q : Q x ⟨sl, M, R⟩) : WX X F ea eb d (.int i) ⟨sl, M, R⟩ Q := fun G σ H v1 v2 hh r1 r2 R hR pins s v u I rv ru hs => by
  obtain ⟨p, vs, rfl, hS, hr⟩ := hh.seeL (K := X.K) r1 sd.see
  obtain ⟨w, hw, rw'⟩ := atI_rep hr ha
  rw [r2.int_inv] at ru
  exact ix_list ea eb pins s σ H (.ref p) (.int i) v u R I rv ru ⟨p, vs, i, w, rfl, rfl, hS, hw, hR.here hh q rw'⟩ hs
theorem wx_tup {d : D} {ds : List D} {i : Int} {x : D} [sd : SeeT M R d ds] (ha : atI ds i = some x) (q : Q x ⟨sl, M, R⟩) : WX X F ea eb d (.int i) ⟨sl, M, R⟩ Q := fun G σ H v1 v2 hh r1 r2 R hR pins s v u I rv ru hs => by
  obtain ⟨p, vs, rfl, hS, hr⟩ := hh.seeT (K := X.K) r1 sd.see
  obtain ⟨w, hw, rw'⟩ := atI_rep hr ha
  rw [r2.int_inv] at ru
  exact ix_tup ea eb pins s σ H (.ref p) (.int i) v u R I rv ru ⟨p, vs, i, w, rfl, rfl, hS, hw, hR.here hh q rw'⟩ hs
theorem wx_str {z : Str} {i : Int} {c : Nat} (hz : z.length ≤ sizeLine) (ha : atI z.cps.toList i = some c) (q : Q (.str ⟨#[c]⟩) Γ) : WX X F ea eb (.str z) (.int i) Γ Q := fun G σ H v1 v2 hh r1 r2 R hR pins s v u I rv ru hs => by
  rw [r1.str_inv] at rv
  rw [r2.int_inv] at ru
  exact ix_str ea eb pins s σ H (.str z) (.int i) v u R I rv ru ⟨z, i, c, rfl, rfl, hz, ha, hR.here hh q (.str _)⟩ hs

/-! dicts -/
def kD : Key → D
  | .inl i => .int i
  | .inr x => .str x
theorem Rep.kD {G : Hp} (k : Key) : Rep G (kV k) (kD k) := by
  cases k with
  | inl i => exact .int i
  | inr x => exact .str x
theorem Rep.kD_inv {G : Hp} {v : V} {k : Key} (r : Rep G v (DL.kD k)) : v = kV k := by
  cases k with
  | inl i => exact r.int_inv
  | inr x => exact r.str_inv
theorem Reps.kD_inv {G : Hp} : ∀ {vs : List V} {k : List Key}, Reps G vs (k.map DL.kD) → vs = k.map kV
  | vs, [], h => h.nil_inv
  | vs, a :: k, h => by
    obtain ⟨v, vr, rfl, ra, rb⟩ := Reps.cons_inv (ds := k.map DL.kD) h
    rw [ra.kD_inv, Reps.kD_inv rb]; rfl
def lookD {κ : Type} [DecidableEq κ] (kvs : List (κ × D)) (k : κ) : Option D := (kvs.find? fun kv => decide (kv.1 = k)).map (·.2)
def putD {κ : Type} [DecidableEq κ] (kvs : List (κ × D)) (k : κ) (v : D) : List (κ × D) :=
  if (kvs.any fun kv => decide (kv.1 = k)) = true then kvs.map (fun kv => if kv.1 = k then (kv.1, v) else kv) else kvs ++ [(k, v)]
def dropD {κ : Type} [DecidableEq κ] (kvs : List (κ × D)) (k : κ) : List (κ × D) := kvs.filter fun kv => decide (kv.1 ≠ k)
section
variable {κ : Type} [DecidableEq κ]
theorem look_rep {G : Hp} (k : κ) : ∀ {kvs : List (κ × V)} {kds : List (κ × D)}, kvs.map (·.1) = kds.map (·.1) → Reps G (kvs.map (·.2)) (kds.map (·.2)) →
    (valV kvs k = none ∧ lookD kds k = none) ∨ ∃ v d, valV kvs k = some v ∧ lookD kds k = some d ∧ Rep G v d
  | [], [], _, _ => .inl ⟨rfl, rfl⟩
  | [], _ :: _, h, _ => by simp at h
  | _ :: _, [], h, _ => by simp at h
  | (a, v) :: kvs, (b, d) :: kds, h, r => by
    have h1 : a = b := by simpa using (List.cons.inj h).1
    have h2 := (List.cons.inj h).2
    subst h1
    have rh : Rep G v d := Reps.head (vs := kvs.map Prod.snd) (ds := kds.map Prod.snd) r
    have rt : Reps G (kvs.map (·.2)) (kds.map (·.2)) := Reps.tail (v := v) (d := d) r
    by_cases e : a = k
    · exact .inr ⟨v, d, by simp [valV, e], by simp [lookD, e], rh⟩
    · rcases look_rep k h2 rt with ⟨e1, e2⟩ | ⟨w, x, e1, e2, rr⟩
      · exact .inl ⟨by rw [valV_neg e]; exact e1, by unfold lookD at e2 ⊢; simp only [List.find?_cons, decide_eq_false e]; exact e2⟩
      · exact .inr ⟨w, x, by rw [valV_neg e]; exact e1, by unfold lookD at e2 ⊢; simp only [List.find?_cons, decide_eq_false e]; exact e2, rr⟩
theorem any_keys (k : κ) : ∀ {kvs : List (κ × V)} {kds : List (κ × D)}, kvs.map (·.1) = kds.map (·.1) → (kvs.any fun kv => decide (kv.1 = k)) = kds.any fun kv => decide (kv.1 = k)
  | [], [], _ => rfl
  | [], _ :: _, h => by simp at h
  | _ :: _, [], h => by simp at h
  | (a, v) :: kvs, (b, d) :: kds, h => by
    have h1 : a = b := by simpa using (List.cons.inj h).1
    rw [List.any_cons, List.any_cons, any_keys k (List.cons.inj h).2, h1]
theorem put_map_keys (k : κ) (v : V) (d : D) {G : Hp} (rv : Rep G v d) : ∀ {kvs : List (κ × V)} {kds : List (κ × D)}, kvs.map (·.1) = kds.map (·.1) → Reps G (kvs.map (·.2)) (kds.map (·.2)) →
    (kvs.map (fun kv => if kv.1 = k then (kv.1, v) else kv)).map (·.1) = (kds.map (fun kv => if kv.1 = k then (kv.1, d) else kv)).map (·.1) ∧
    Reps G ((kvs.map (fun kv => if kv.1 = k then (kv.1, v) else kv)).map (·.2)) ((kds.map (fun kv => if kv.1 = k then (kv.1, d) else kv)).map (·.2))
  | [], [], _, _ => ⟨rfl, Reps.nil⟩
  | [], _ :: _, h, _ => by simp at h
  | _ :: _, [], h, _ => by simp at h
  | (a, w) :: kvs, (b, e) :: kds, h, r => by
    have h1 : a = b := by simpa using (List.cons.inj h).1
    subst h1
    have rh : Rep G w e := Reps.head (vs := kvs.map Prod.snd) (ds := kds.map Prod.snd) r
    have rt : Reps G (kvs.map (·.2)) (kds.map (·.2)) := Reps.tail (v := w) (d := e) r
    obtain ⟨i1, i2⟩ := put_map_keys k v d rv (List.cons.inj h).2 rt
    by_cases ek : a = k
    · simp only [List.map_cons, ek, if_true]
      exact ⟨by rw [i1], Reps.cons rv i2⟩
    · simp only [List.map_cons, ek, if_false]
      exact ⟨by rw [i1], Reps.cons rh i2⟩
theorem put_rep {G : Hp} (k : κ) {v : V} {d : D} (rv : Rep G v d) {kvs : List (κ × V)} {kds : List (κ × D)} (h : kvs.map (·.1) = kds.map (·.1)) (r : Reps G (kvs.map (·.2)) (kds.map (·.2))) :
    (putK kvs k v).map (·.1) = (putD kds k d).map (·.1) ∧ Reps G ((putK kvs k v).map (·.2)) ((putD kds k d).map (·.2)) := by
  unfold putK putD
  rw [any_keys k h]
  split
  · exact put_map_keys k v d rv h r
  · rw [List.map_append, List.map_append, List.map_append, List.map_append, h]
    exact ⟨rfl, r.append (Reps.cons rv Reps.nil)⟩
end
theorem Holds.seeK {G : Hp} {σ : L2.St} {H : Hp} (h : Holds F G Γ σ H) {d : D} {kds : List (Key × D)} {v : V} (r : Rep G v d) (s : See Γ.M Γ.R d (.dK kds)) : ∃ p kvs, v = .ref p ∧ Rd H p (.dK kvs) ∧ kvs.map (·.1) = kds.map (·.1) ∧ Reps G (kvs.map (·.2)) (kds.map (·.2)) := by
  rcases h.see r s with ⟨p, o, rfl, ho, hs⟩ | ⟨rfl, r⟩
  · obtain ⟨kvs, rfl, a, b⟩ := hs.dK_inv
    exact ⟨p, kvs, rfl, ho, a, b⟩
  · cases r
theorem Holds.seeDT {G : Hp} {σ : L2.St} {H : Hp} (h : Holds F G Γ σ H) {d : D} {kds : List (List Key × D)} {v : V} (r : Rep G v d) (s : See Γ.M Γ.R d (.dT kds)) : ∃ p kvs, v = .ref p ∧ Rd H p (.dT kvs) ∧ kvs.map (·.1) = kds.map (·.1) ∧ Reps G (kvs.map (·.2)) (kds.map (·.2)) := by
  rcases h.see r s with ⟨p, o, rfl, ho, hs⟩ | ⟨rfl, r⟩
  · obtain ⟨kvs, rfl, a, b⟩ := hs.dT_inv
    exact ⟨p, kvs, rfl, ho, a, b⟩
  · cases r
theorem wx_dget (hX : Std X) {G : Hp} {σ : L2.St} {H : Hp} {R : VK} {p : Addr} {y v : V} {pins : List (Addr × Obj)} {s : Shared} {u : Value} (I : Inv X pins σ H s) (g : DGet H p y (some v)) (ru : RelV y u) (q : R v H) (hs : subscripted eb false (.ref p) u = operate [.ref p, u] (getItem (.ref p) u)) :
    wpAny (model X.prog X.w) X.A (subscriptTail ea eb (.ref p) u) (EP X pins σ R) X.xe s :=
  tail_any (dict_typeIs I g) PySem.F.slot_dict_getitem.lookup (d_getItem hX.hu1 I g ru fun w' s3 I3 rw' => ⟨v, H, I3, rw', q⟩) hs
theorem wx_dK (hX : Std X) {d : D} {kds : List (Key × D)} {k : Key} {x : D} [sd : SeeK M R d kds] (ha : lookD kds k = some x) (q : Q x ⟨sl, M, R⟩) : WX X F ea eb d (kD k) ⟨sl, M, R⟩ Q := fun G σ H v1 v2 hh r1 r2 R hR pins s v u I rv ru hs => by
  obtain ⟨p, kvs, rfl, hS, hk, hr⟩ := hh.seeK r1 sd.see
  cases rv
  rw [r2.kD_inv] at ru
  rcases look_rep k hk hr with ⟨_, e⟩ | ⟨w, x', e1, e2, rr⟩
  · rw [ha] at e; cases e
  · rw [ha] at e2; cases e2
    exact wx_dget (G := G) hX I (.inl ⟨kvs, k, hS, rfl, e1.symm⟩) ru (hR.here hh q rr) hs
theorem wx_dT (hX : Std X) {d : D} {kds : List (List Key × D)} {k : List Key} {x : D} [sd : SeeDT M R d kds] (ha : lookD kds k = some x) (q : Q x ⟨sl, M, R⟩) : WX X F ea eb d (.tup (k.map kD)) ⟨sl, M, R⟩ Q := fun G σ H v1 v2 hh r1 r2 R hR pins s v u I rv ru hs => by
  obtain ⟨p, kvs, rfl, hS, hk, hr⟩ := hh.seeDT r1 sd.see
  cases rv
  obtain ⟨b, vs, rfl, hb, hv⟩ := r2.tup_inv
  rw [hv.kD_inv] at hb
  rcases look_rep k hk hr with ⟨_, e⟩ | ⟨w, x', e1, e2, rr⟩
  · rw [ha] at e; cases e
  · rw [ha] at e2; cases e2
    exact wx_dget (G := G) hX I (.inr ⟨kvs, k, b, hS, rfl, hh.gh _ _ hb, e1.symm⟩) ru (hR.here hh q rr) hs
theorem wo_inK (hX : Std X) {neg : Bool} {d : D} {kds : List (Key × D)} {k : Key} [sd : SeeK M R d kds] (q : Q (.bl (if neg then !(lookD kds k).isSome else (lookD kds k).isSome)) ⟨sl, M, R⟩) : WO X F (compareOp (if neg then .NotIn else .In)) (kD k) d ⟨sl, M, R⟩ Q := fun G σ H y x hh r2 r1 R hR pins s u v I ru rv => by
  obtain ⟨p, kvs, rfl, hS, hk, hr⟩ := hh.seeK r1 sd.see
  cases rv
  rw [r2.kD_inv] at ru
  have e : (valV kvs k).isSome = (lookD kds k).isSome := by
    rcases look_rep k hk hr with ⟨e1, e2⟩ | ⟨w, x', e1, e2, rr⟩ <;> rw [e1, e2] <;> rfl
  rw [← e] at q
  cases neg with
  | true => exact d_notIn hX.hu1 I (.inl ⟨kvs, k, hS, rfl, rfl⟩) ru fun s' I' => ⟨.bl _, H, I', rfl, hR.here hh q (.bl _)⟩
  | false => exact d_in hX.hu1 I (.inl ⟨kvs, k, hS, rfl, rfl⟩) ru fun s' I' => ⟨.bl _, H, I', rfl, hR.here hh q (.bl _)⟩
theorem wo_inDT (hX : Std X) {neg : Bool} {d : D} {kds : List (List Key × D)} {k : List Key} [sd : SeeDT M R d kds] (q : Q (.bl (if neg then !(lookD kds k).isSome else (lookD kds k).isSome)) ⟨sl, M, R⟩) : WO X F (compareOp (if neg then .NotIn else .In)) (.tup (k.map kD)) d ⟨sl, M, R⟩ Q := fun G σ H y x hh r2 r1 R hR pins s u v I ru rv => by
  obtain ⟨p, kvs, rfl, hS, hk, hr⟩ := hh.seeDT r1 sd.see
  cases rv
  obtain ⟨b, vs, rfl, hb, hv⟩ := r2.tup_inv
  rw [hv.kD_inv] at hb
  have e : (valV kvs k).isSome = (lookD kds k).isSome := by
    rcases look_rep k hk hr with ⟨e1, e2⟩ | ⟨w, x', e1, e2, rr⟩ <;> rw [e1, e2] <;> rfl
  rw [← e] at q
  cases neg with
  | true => exact d_notIn hX.hu1 I (.inr ⟨kvs, k, b, hS, rfl, hh.gh _ _ hb, rfl⟩) ru fun s' I' => ⟨.bl _, H, I', rfl, hR.here hh q (.bl _)⟩
  | false => exact d_in hX.hu1 I (.inr ⟨kvs, k, b, hS, rfl, hh.gh _ _ hb, rfl⟩) ru fun s' I' => ⟨.bl _, H, I', rfl, hR.here hh q (.bl _)⟩
theorem we_newK {pos : Pos} (q : ∀ p, Q (.ref p) ⟨Γ.sl, (p, .dK []) :: Γ.M, Γ.R⟩) : WE X F (.Dict [] [] pos) Γ Q := fun G σ H hh R hR => tU_of pe_dnewK fun p hp => hR _ _ G _ _ (q p) (Same.refl G) (hh.newOwn hp (.dK rfl Reps.nil)) (.ref p)
theorem we_newT {pos : Pos} (q : ∀ p, Q (.ref p) ⟨Γ.sl, (p, .dT []) :: Γ.M, Γ.R⟩) : WE X F (.Dict [] [] pos) Γ Q := fun G σ H hh R hR => tU_of pe_dnewT fun p hp => hR _ _ G _ _ (q p) (Same.refl G) (hh.newOwn hp (.dT rfl Reps.nil)) (.ref p)

/-! ### stores by subscript -/
/-- o[i] = v -/
def WSet (X : Cx) (F : Fr) (o i v : D) (Γ : DL.Env) (Q : DL.Env → Prop) : Prop := ∀ G σ H xo xi xv, Holds F G Γ σ H → Rep G xo o → Rep G xi i → Rep G xv v → ∀ R : Hp → Prop, (∀ Γ' G' H', Q Γ' → Same G G' → Holds F G' Γ' σ H' → R H') →
  ∀ (pins : List (Addr × Obj)) (s : Shared) (ov iv u : Value), Inv X pins σ H s → RelV xo ov → RelV xi iv → RelV xv u → wpAny (model X.prog X.w) X.A (setItem ov iv u) (fun _ s' => ∃ H', Inv X pins σ H' s' ∧ R H') X.xe s
/-- the store of a value that was reckoned before: it is frozen ahead -/
theorem ws_sub {o i e : Expr} {pos pos' : Pos} {O : Out} (hs : swapsWith e (some (.Subscript o i pos')) pos.line X.env = pure false)
    (h : WE X F e Γ fun v Γ1 => Fz F v Γ1 fun v Γ1 => WE X F o Γ1 fun od Γ2 => WE X F i Γ2 fun id Γ3 => WSet X F od id v Γ3 O.nx) : WS X F (.Assign [.Subscript o i pos'] e pos) Γ O := fun G σ H hh E hE pins s I => by
  have hq : tU X e σ H fun xv H1 => tU X o σ H1 fun xo H2 => tU X i σ H2 fun xi H3 => ∀ (pins : List (Addr × Obj)) (s : Shared) (ov iv u : Value), Inv X pins σ H3 s → RelV xo ov → RelV xi iv → RelV xv u → wpAny (model X.prog X.w) X.A (setItem ov iv u) (fun _ s' => ∃ H', Inv X pins σ H' s' ∧ E.nx σ H') X.xe s := by
    refine we_fz h G σ H hh _ fun v Γ1 G1 xv H1 q s1 h1 rv => ?_
    refine q G1 σ H1 h1 _ fun od Γ2 G2 xo H2 q2 s2 h2 ro => ?_
    refine q2 G2 σ H2 h2 _ fun id Γ3 G3 xi H3 q3 s3 h3 ri => ?_
    exact q3 G3 σ H3 xo xi xv h3 (ro.mono s3) ri (rv.mono (s2.trans s3)) _ fun Γ' G' H' qq sg hh' => hE.nx Γ' G' σ H' qq (((s1.trans s2).trans s3).trans sg) hh'
  refine wpAny_Assign_Subscript (thn (hq pins s I) fun r s1 ⟨v, H1, I1, rv, q1⟩ => thn (q1 pins s1 I1) fun u s2 ⟨x, H2, I2, rx, q2⟩ => thn (q2 pins s2 I2) fun iv s3 ⟨y, H3, I3, ry, q3⟩ => ?_) hs
  exact thn (q3 pins s3 u iv r I3 rx ry rv) fun _ s4 ⟨H4, I4, q4⟩ => ⟨σ, H4, I4, q4⟩
theorem wset_list {p : Addr} {ds : List D} {k j : Nat} {i : Int} {v : D} {QG : DL.Env → Prop} [h : At M p (.lst ds) k] [h2 : SetM M k (p, .lst (ds.set j v)) M'] (hi : ixN ds.length i = some j) (q : QG ⟨sl, M', R⟩) : WSet X F (.ref p) (.int i) v ⟨sl, M, R⟩ QG :=
  fun G σ H xo xi xv hh ro ri rv K hK pins s ov iv u I rvo rvi rvv => by
    obtain ⟨_, _, o, ho, hs⟩ := hh.mem.at_ _ (List.mem_of_getElem? h.e)
    obtain ⟨vs, rfl, hr⟩ := hs.lst_inv
    rw [ro.ref_inv] at rvo
    rw [ri.int_inv] at rvi
    refine set_list pins s σ H (.ref p) (.int i) xv ov iv u K I rvo rvi rvv ⟨p, vs, i, j, rfl, rfl, ho, by rw [hr.1]; exact hi, ?_⟩
    have hw := hh.write h.e (o' := .lst (vs.set j xv)) (.lst (hr.set rv j))
    rw [← h2.e] at hw
    exact hK _ G _ q (Same.refl G) hw
theorem wset_dK (hX : Std X) {p : Addr} {kds : List (Key × D)} {m : Nat} {k : Key} {v : D} {QG : DL.Env → Prop} [h : At M p (.dK kds) m] [h2 : SetM M m (p, .dK (putD kds k v)) M'] (hl : kds.length < sizeLine) (q : QG ⟨sl, M', R⟩) : WSet X F (.ref p) (kD k) v ⟨sl, M, R⟩ QG :=
  fun G σ H xo xi xv hh ro ri rv K hK pins s ov iv u I rvo rvi rvv => by
    obtain ⟨_, _, o, ho, hs⟩ := hh.mem.at_ _ (List.mem_of_getElem? h.e)
    obtain ⟨kvs, rfl, hk, hr⟩ := hs.dK_inv
    rw [ro.ref_inv] at rvo
    rw [ri.kD_inv] at rvi
    cases rvo
    have hlen : kvs.length = kds.length := by have := congrArg List.length hk; simpa using this
    refine d_setItem hX.hu1 I (.inl ⟨kvs, k, ho, rfl, by rw [hlen]; exact hl, rfl⟩) rvi rvv fun s' I' => ⟨_, I', ?_⟩
    obtain ⟨a, b⟩ := put_rep k rv hk hr
    have hw := hh.write h.e (o' := .dK (putK kvs k xv)) (.dK a b)
    rw [← h2.e] at hw
    exact hK _ G _ q (Same.refl G) hw
theorem wset_dT (hX : Std X) {p : Addr} {kds : List (List Key × D)} {m : Nat} {k : List Key} {v : D} {QG : DL.Env → Prop} [h : At M p (.dT kds) m] [h2 : SetM M m (p, .dT (putD kds k v)) M'] (hl : kds.length < sizeLine) (q : QG ⟨sl, M', R⟩) : WSet X F (.ref p) (.tup (k.map kD)) v ⟨sl, M, R⟩ QG :=
  fun G σ H xo xi xv hh ro ri rv K hK pins s ov iv u I rvo rvi rvv => by
    obtain ⟨_, _, o, ho, hs⟩ := hh.mem.at_ _ (List.mem_of_getElem? h.e)
    obtain ⟨kvs, rfl, hk, hr⟩ := hs.dT_inv
    rw [ro.ref_inv] at rvo
    cases rvo
    obtain ⟨b, vs, rfl, hb, hv⟩ := ri.tup_inv
    rw [hv.kD_inv] at hb
    have hlen : kvs.length = kds.length := by have := congrArg List.length hk; simpa using this
    refine d_setItem hX.hu1 I (.inr ⟨kvs, k, b, ho, rfl, hh.gh _ _ hb, by rw [hlen]; exact hl, rfl⟩) rvi rvv fun s' I' => ⟨_, I', ?_⟩
    obtain ⟨a, b⟩ := put_rep k rv hk hr
    have hw := hh.write h.e (o' := .dT (putK kvs k xv)) (.dT a b)
    rw [← h2.e] at hw
    exact hK _ G _ q (Same.refl G) hw
end
end DL

/-! The D layer, part 5: defs and their calls; operations on ints, texts, lists. -/
namespace DL
open PySem PySem.Spec PyProof.Rows L2

/-! ### a def's promise over plain data -/
abbrev SpD := List D → Mem → Mem → (D → Mem → Prop) → Prop
def SpOf (S : SpD) : Sp := fun vs H Q _ => ∃ (ds : List D) (M R : Mem) (B G : Hp) (P : D → Mem → Prop), Reps G vs ds ∧ Same G B ∧ Same B H ∧ MemOk B G H M ∧ (∀ q ∈ R, ∃ o, Rd B q.1 o ∧ Shell G o q.2) ∧ S ds M R P ∧
  ∀ d M' G' v H', P d M' → Same G G' → Same G' H' → Same B H' → (∀ p o, G' p = some o → G p = some o ∨ B p = none ∨ ∃ vs, o = .tup vs) → MemOk B G' H' M' → Rep G' v d → Q v H'
/-- what a body is asked -/
def startD (n : Nat) (ds : List D) : List (Option D) := ds.map some ++ List.replicate (n - ds.length) none
def Sub (M' M : Mem) : Prop := ∀ q ∈ M', q ∈ M
def outD (P : D → Mem → Prop) : Out := { nx := fun Γ => ∃ M', (M'.map (·.1)).Nodup ∧ Sub M' Γ.M ∧ P .non M', rt := fun d Γ => ∃ M', (M'.map (·.1)).Nodup ∧ Sub M' Γ.M ∧ P d M' }

structure In (X : Cx) (P : Program) (w : World) (K : PySem.W.Frag) (mg : Str → Option Value) (base : Heap) (k : Nat) : Prop where
  prog : X.prog = P
  w : X.w = w
  K : X.K = K
  mg : X.mg = mg
  base : X.base = base
  room : Room k X.A
  calm : X.calm = true
  nd : X.N.Nodup
  nox : X.xe = fun _ _ => False
theorem In.std {X : Cx} {P : Program} {w : World} {K : PySem.W.Frag} {mg : Str → Option Value} {base : Heap} {k : Nat} (h : In X P w K mg base k) : Std X :=
  ⟨h.calm, h.nd, by rw [h.nox]; exact PassesOwn.never, h.room.units⟩
theorem In.mono {X : Cx} {P : Program} {w : World} {K : PySem.W.Frag} {mg : Str → Option Value} {base : Heap} {j k : Nat} (h : In X P w K mg base k) (hj : j ≤ k) : In X P w K mg base j :=
  ⟨h.prog, h.w, h.K, h.mg, h.base, h.room.mono hj, h.calm, h.nd, h.nox⟩
/-- the names of a def's context -/
structure Nm (X : Cx) (N : List Str) (sc : Scope) : Prop where
  N : X.N = N
  sc : X.env.scope = sc
  fn : X.fn = fun _ => true

section
variable {P : Program} {w : World} {K : PySem.W.Frag} {mg : Str → Option Value} {base : Heap}
theorem start_reps {G : Hp} {N : List Str} {vs : List V} {ds : List D} (r : Reps G vs ds) : (L2.start N vs).length = (startD N.length ds).length ∧ ∀ (i : Nat) (d : D), (startD N.length ds)[i]? = some (some d) → ∃ v, (L2.start N vs)[i]? = some (some v) ∧ Rep G v d := by
  unfold L2.start startD
  refine ⟨by simp [r.1], fun i d h => ?_⟩
  by_cases hi : i < ds.length
  · rw [List.getElem?_append_left (by simpa using hi), List.getElem?_map] at h
    rw [List.getElem?_append_left (by rw [List.length_map, r.1]; exact hi), List.getElem?_map]
    obtain ⟨x, e, e2⟩ := Option.map_eq_some_iff.mp h
    cases e2
    obtain ⟨v, hv, rv⟩ := r.get e
    exact ⟨v, by rw [hv]; rfl, rv⟩
  · rw [List.getElem?_append_right (by simpa using Nat.le_of_not_lt hi)] at h
    rw [List.getElem?_replicate] at h
    split at h <;> cases h
/-- THE RULE for a def -/
theorem fnD {x qual : Str} {st : Stmt} {f : Addr} {fd : FuncData} {N ps : List Str} {k : Nat} {S : SpD} (Fu : Fun K x qual st f fd) (Sc : FnScope N ps (defScope st)) (len : ∀ ds M R Q, S ds M R Q → ds.length = ps.length)
    (hbody : ∀ (X : Cx) (F : Fr), In X P w K mg base k → Nm X N (defScope st) → ∀ ds M R Q, S ds M R Q → WSs X F (defBody st) ⟨startD N.length ds, M, R⟩ (outD Q)) : FnOk P w K mg base CX0 (k + 1) f fd ps (SpOf S) := by
  refine Fu.ok Sc (fun vs H Q E h => ?_) (fun cdv A outer s H vs Q E hr h => ?_)
  · obtain ⟨ds, M, R, B, G, Pq, r, _, _, _, _, hS, _⟩ := h
    rw [r.1]; exact len _ _ _ _ hS
  · obtain ⟨ds, M, R, B, G, Pq, r, gb, bh, mk, rk, hS, q⟩ := h
    refine ⟨tUSs _ (defBody st), pss_U, ?_⟩
    have hin : In (cxOf CX0 P w K mg base N qual (defScope st) f cdv A outer s H E).nox P w K mg base k := ⟨rfl, rfl, rfl, rfl, rfl, hr, rfl, Sc.nd, rfl⟩
    obtain ⟨e1, e2⟩ := start_reps (N := N) r
    refine hbody _ ⟨B, G⟩ hin ⟨rfl, rfl, rfl⟩ ds M R Pq hS G (L2.start N vs) H ⟨Same.refl _, gb.trans bh, bh, gb, fun p o e => .inl e, e1, e2, mk, rk⟩ _ ⟨?_, ?_, ?_, ?_⟩
    · intro Γ' G' σ' H' ⟨M', nd, sb, hp⟩ sg hh
      exact q .non M' G' .non H' hp sg hh.gh hh.bh hh.nw ⟨nd, fun z hz => hh.mem.at_ z (sb z hz)⟩ .non
    · intro d Γ' G' σ' v H' ⟨M', nd, sb, hp⟩ sg hh rv
      exact q d M' G' v H' hp sg hh.gh hh.bh hh.nw ⟨nd, fun z hz => hh.mem.at_ z (sb z hz)⟩ rv
    · exact fun _ _ _ _ z => z.elim
    · exact fun _ _ _ _ z => z.elim
/-- what a caller knows of a def -/
structure Cal (P : Program) (w : World) (K : PySem.W.Frag) (mg : Str → Option Value) (base : Heap) (k : Nat) (x : Str) (S : SpD) : Prop where
  ex : ∃ (f : Addr) (fd : FuncData) (ps : List Str), FnOk P w K mg base CX0 k f fd ps (SpOf S) ∧ mg x = some (.ref f) ∧ PySem.W.keepIn K (.ref f) = true ∧ Binds K fd ps []
theorem Cal.imp {k : Nat} {x : Str} {S S' : SpD} (c : Cal P w K mg base k x S) (h : ∀ ds M R Q, S' ds M R Q → S ds M R Q) : Cal P w K mg base k x S' := by
  obtain ⟨f, fd, ps, a, b, c, d⟩ := c.ex
  exact ⟨f, fd, ps, a.imp fun vs H Q E ⟨ds, M, R, B, G, Pq, r, gb, bh, mo, rk, hS, q⟩ => ⟨ds, M, R, B, G, Pq, r, gb, bh, mo, rk, h _ _ _ _ hS, q⟩, b, c, d⟩

variable {X : Cx} {F : Fr} {Γ : DL.Env} {Q : D → DL.Env → Prop} {sl sl' : List (Option D)} {M M' R : Mem}
/-- the heap without the places that are handed over -/
def lessM (H : Hp) (M0 : Mem) : Hp := fun p => if p ∈ M0.map (·.1) then none else H p
theorem lessM_same {H : Hp} {M0 : Mem} : Same (lessM H M0) H := fun p o e => by
  unfold lessM at e
  split at e
  · cases e
  · exact e
/-- the call by values: M0 is handed over, the rest is only read -/
theorem call_sem {S : SpD} {G : Hp} {σ : L2.St} {H : Hp} {vs : List V} {ds : List D} (hh : Holds F G Γ σ H) (r : Reps G vs ds) {M0 rest : Mem} (hp : Γ.M.Perm (M0 ++ rest)) {Pq : D → Mem → Prop} (hS : S ds M0 (rest ++ Γ.R) Pq) (K' : VK) (E : XK)
    (hK : ∀ d M' G' v H', Pq d M' → Same G G' → Holds F G' ⟨Γ.sl, M' ++ rest, Γ.R⟩ σ H' → Rep G' v d → K' v H') : SpOf S vs H K' E := by
  have nd : ((M0 ++ rest).map (·.1)).Nodup := (hp.map _).nodup_iff.mp hh.mem.nd
  rw [List.map_append, List.nodup_append] at nd
  obtain ⟨nd1, nd2, dis⟩ := nd
  have at1 : ∀ q ∈ M0, q ∈ Γ.M := fun q hq => hp.symm.subset (List.mem_append_left _ hq)
  have at2 : ∀ q ∈ rest, q ∈ Γ.M := fun q hq => hp.symm.subset (List.mem_append_right _ hq)
  have notin : ∀ p o, F.B p = some o → p ∉ M0.map (·.1) := fun p o e hm => by
    obtain ⟨q, hq, rfl⟩ := List.mem_map.mp hm
    rw [(hh.mem.at_ q (at1 q hq)).1] at e; cases e
  have notinG : ∀ p o, G p = some o → p ∉ M0.map (·.1) := fun p o e hm => by
    obtain ⟨q, hq, rfl⟩ := List.mem_map.mp hm
    rw [(hh.mem.at_ q (at1 q hq)).2.1] at e; cases e
  refine ⟨ds, M0, rest ++ Γ.R, lessM H M0, G, Pq, r, fun p o e => ?_, lessM_same, ⟨nd1, fun q hq => ?_⟩, fun q hq => ?_, hS, ?_⟩
  · unfold lessM
    rw [if_neg (notinG p o e)]
    exact hh.gh _ _ e
  · obtain ⟨a, b, o, c, d⟩ := hh.mem.at_ q (at1 q hq)
    refine ⟨?_, b, o, c, d⟩
    unfold lessM
    rw [if_pos (List.mem_map_of_mem hq)]
  · rcases List.mem_append.mp hq with hq | hq
    · obtain ⟨a, b, o, c, d⟩ := hh.mem.at_ q (at2 q hq)
      refine ⟨o, .inl ?_, d⟩
      unfold lessM
      rw [if_neg fun hm => dis _ hm _ (List.mem_map_of_mem hq) rfl]
      exact c
    · obtain ⟨o, c, d⟩ := hh.rd q hq
      refine ⟨o, ?_, d⟩
      rcases c with c | ⟨z, c⟩
      · refine .inl ?_
        unfold lessM
        rw [if_neg (notin _ _ c)]
        exact hh.bh _ _ c
      · refine .inr ⟨z, ?_⟩
        unfold lessM
        rw [if_neg (notin _ _ c)]
        exact hh.bh _ _ c
  · intro d M' G' v H' hP sg gh' bh' nw' mk' rv
    have bB : Same F.B (lessM H M0) := fun p o e => by
      unfold lessM
      rw [if_neg (notin _ _ e)]
      exact hh.bh _ _ e
    refine hK d M' G' v H' hP sg ⟨hh.g0.trans sg, gh', bB.trans bh', hh.gb, fun p o e => ?_, hh.len, fun i d e => ?_, ⟨?_, fun q hq => ?_⟩, fun q hq => ?_⟩ rv
    · rcases nw' p o e with e1 | e1 | e1
      · exact hh.nw p o e1
      · cases hB : F.B p with
        | none => exact .inr (.inl rfl)
        | some o' => rw [bB p o' hB] at e1; cases e1
      · exact .inr (.inr e1)
    · obtain ⟨v, a, b⟩ := hh.sl i d e
      exact ⟨v, a, b.mono sg⟩
    · rw [List.map_append, List.nodup_append]
      refine ⟨mk'.nd, nd2, fun a ha b hb e => ?_⟩
      subst e
      obtain ⟨q, hq, rfl⟩ := List.mem_map.mp ha
      obtain ⟨q', hq', e'⟩ := List.mem_map.mp hb
      have h1 := (mk'.at_ q hq).1
      obtain ⟨_, _, o, c, _⟩ := hh.mem.at_ q' (at2 q' hq')
      have h2 : lessM H M0 q.1 = some o := by
        unfold lessM
        rw [← e', if_neg fun hm => dis _ hm _ (List.mem_map_of_mem hq') rfl]
        exact c
      rw [h1] at h2; cases h2
    · rcases List.mem_append.mp hq with hq | hq
      · obtain ⟨a, b, c⟩ := mk'.at_ q hq
        refine ⟨?_, b, c⟩
        cases hB : F.B q.1 with
        | none => rfl
        | some o' => rw [bB _ o' hB] at a; cases a
      · obtain ⟨a, b, o, c, d⟩ := hh.mem.at_ q (at2 q hq)
        have h2 : lessM H M0 q.1 = some o := by
          unfold lessM
          rw [if_neg fun hm => dis _ hm _ (List.mem_map_of_mem hq) rfl]
          exact c
        refine ⟨a, ?_, o, bh' _ _ h2, d.mono sg⟩
        cases hG : G' q.1 with
        | none => rfl
        | some o' =>
          rcases nw' _ _ hG with e1 | e1 | ⟨vs, e1⟩
          · rw [b] at e1; cases e1
          · rw [h2] at e1; cases e1
          · have e2 := gh' _ _ hG
            rw [bh' _ _ h2, e1] at e2
            cases e2
            exact d.notT.elim
    · obtain ⟨o, c, d⟩ := hh.rd q hq
      exact ⟨o, c, d.mono sg⟩
theorem Holds.perm {G : Hp} {σ : L2.St} {H : Hp} {M2 : Mem} (hh : Holds F G ⟨sl, M, R⟩ σ H) (hp : M2.Perm M) : Holds F G ⟨sl, M2, R⟩ σ H :=
  ⟨hh.g0, hh.gh, hh.bh, hh.gb, hh.nw, hh.len, hh.sl, ⟨(hp.map _).nodup_iff.mpr hh.mem.nd, fun q hq => hh.mem.at_ q (hp.subset hq)⟩, hh.rd⟩
class AppM (A B : Mem) (C : outParam Mem) : Prop where
  e : C = A ++ B
instance AppM.nil {B : Mem} : AppM [] B B := ⟨rfl⟩
instance AppM.cons {A B C : Mem} {q : Addr × D} [h : AppM A B C] : AppM (q :: A) B (q :: C) := ⟨by rw [h.e]; rfl⟩
def App (A B : Mem) (f : Mem → Prop) : Prop := f (A ++ B)
theorem app_go {A B C : Mem} {f : Mem → Prop} [h : AppM A B C] (q : f C) : App A B f := by
  show f (A ++ B)
  rw [← h.e]; exact q
def MSet (M : Mem) (k : Nat) (q : Addr × D) (f : Mem → Prop) : Prop := f (M.set k q)
theorem mset_go {M M' : Mem} {k : Nat} {q : Addr × D} {f : Mem → Prop} [h : SetM M k q M'] (r : f M') : MSet M k q f := by
  show f (M.set k q)
  rw [← h.e]; exact r
/-- a call that is handed nothing of ours -/
def Own0 (S : SpD) (ds : List D) (Γ : DL.Env) (Q : D → DL.Env → Prop) : Prop := S ds [] (Γ.M ++ Γ.R) fun d M' => App M' Γ.M fun M2 => Q d ⟨Γ.sl, M2, Γ.R⟩
theorem own0_go {S : SpD} {ds : List D} {MR : Mem} [h : AppM M R MR] (q : S ds [] MR fun d M' => App M' M fun M2 => Q d ⟨sl, M2, R⟩) : Own0 S ds ⟨sl, M, R⟩ Q := by
  show S ds [] (M ++ R) _
  rw [← h.e]; exact q
/-- one that is handed the place of its first argument -/
def Own1 (S : SpD) (ds : List D) (Γ : DL.Env) (Q : D → DL.Env → Prop) : Prop := ∃ (a : Addr) (c : D) (m : Nat), Γ.M[m]? = some (a, c) ∧ S ds [(a, c)] (Γ.M.eraseIdx m ++ Γ.R) fun d M' => ∃ c' new, M' = (a, c') :: new ∧ MSet Γ.M m (a, c') fun M2 => App new M2 fun M3 => Q d ⟨Γ.sl, M3, Γ.R⟩
theorem own1_go {S : SpD} {a : Addr} {c : D} {m : Nat} {ds : List D} {M1 MR : Mem} [h1 : At M a c m] [h2 : DelM M m M1] [h3 : AppM M1 R MR] (q : S (.ref a :: ds) [(a, c)] MR fun d M' => ∃ c' new, M' = (a, c') :: new ∧ MSet M m (a, c') fun M2 => App new M2 fun M3 => Q d ⟨sl, M3, R⟩) : Own1 S (.ref a :: ds) ⟨sl, M, R⟩ Q := by
  refine ⟨a, c, m, h1.e, ?_⟩
  show S _ _ (M.eraseIdx m ++ R) _
  rw [← h2.e, ← h3.e]; exact q
/-- f(..): nothing of ours is handed over -/
theorem we_call {k j : Nat} {S : SpD} {x : Str} {p pos : Pos} {e : Expr} {es : List Expr} (c : Cal P w K mg base k x S) (hX : In X P w K mg base j) (hj : k ≤ j) (hg : Gl X x) (hdb : (x == ("__debug__" : Str)) = false) (he : starEach (e :: es) X.env = (false, eval e X.env) :: starEach es X.env)
    (hpl : (backTo pos (starEach es X.env)).any (·.1) = false) (h : WA X F (e :: es) Γ fun ds Γ1 => Own0 S ds Γ1 Q) : WE X F (.Call (.Name x p) (e :: es) [] pos) Γ Q := fun G σ H hh R hR => by
  obtain ⟨f, fd, ps, Fn, hm, hk, hb⟩ := c.ex
  obtain ⟨rfl, rfl, rfl, rfl, rfl, room, calm, nd, nox⟩ := hX
  refine tU_of (pe_call Fn (room.mono hj) hg hm hk hb .nil (E := fun _ _ _ => False) pass0 pa_U hdb he hpl) ?_
  refine h G σ H hh _ fun ds Γ1 G1 vs H1 q s1 h1 r1 => ?_
  rw [List.append_nil]
  exact call_sem (M0 := []) h1 r1 (List.Perm.refl _) q _ _ fun d M' G' v H' hq sg h' rv => hR d _ G' v H' hq (s1.trans sg) h' rv
/-- f(..): the place p, which holds c, is handed over and comes back -/
class Take (M : Mem) (k : Nat) (q : Addr × D) (rest : outParam Mem) : Prop where
  perm : M.Perm (q :: rest)
instance Take.tail {M M' : Mem} {q r : Addr × D} {k : Nat} [h : Take M k q M'] : Take (r :: M) (k + 1) q (r :: M') := ⟨(h.perm.cons r).trans (List.Perm.swap _ _ _)⟩
instance Take.head {M : Mem} {q : Addr × D} : Take (q :: M) 0 q M := ⟨List.Perm.refl _⟩
theorem we_call1 {k j : Nat} {S : SpD} {x : Str} {p pos : Pos} {e : Expr} {es : List Expr} (c : Cal P w K mg base k x S) (hX : In X P w K mg base j) (hj : k ≤ j) (hg : Gl X x) (hdb : (x == ("__debug__" : Str)) = false) (he : starEach (e :: es) X.env = (false, eval e X.env) :: starEach es X.env)
    (hpl : (backTo pos (starEach es X.env)).any (·.1) = false) (h : WA X F (e :: es) Γ fun ds Γ1 => Own1 S ds Γ1 Q) :
    WE X F (.Call (.Name x p) (e :: es) [] pos) Γ Q := fun G σ H hh R hR => by
  obtain ⟨f, fd, ps, Fn, hm, hk, hb⟩ := c.ex
  obtain ⟨rfl, rfl, rfl, rfl, rfl, room, calm, nd, nox⟩ := hX
  refine tU_of (pe_call Fn (room.mono hj) hg hm hk hb .nil (E := fun _ _ _ => False) pass0 pa_U hdb he hpl) ?_
  refine h G σ H hh _ fun ds Γ1 G1 vs H1 q s1 h1 r1 => ?_
  obtain ⟨a, c, m, hm', q⟩ := q
  rw [List.append_nil]
  have pm : ∀ {M : Mem} {m : Nat} {a : Addr} {c c' : D}, M[m]? = some (a, c) → (M.set m (a, c')).Perm ((a, c') :: M.eraseIdx m) := by
    intro M
    induction M with
    | nil => intro m a c c' h; simp at h
    | cons z M ih =>
      intro m a c c' h
      cases m with
      | zero => exact List.Perm.refl _
      | succ m => exact ((ih (by simpa using h)).cons z).trans (List.Perm.swap _ _ _)
  have ps : Γ1.M.Perm ((a, c) :: Γ1.M.eraseIdx m) := by
    have := pm (c' := c) hm'
    have e : Γ1.M.set m (a, c) = Γ1.M := by
      apply List.ext_getElem?
      intro i
      by_cases hi : m = i
      · subst hi
        rw [List.getElem?_set]
        simp only [if_pos]
        rw [if_pos (List.getElem?_eq_some_iff.mp hm').1, hm']
      · rw [List.getElem?_set_ne hi]
    rw [e] at this; exact this
  refine call_sem (M0 := [(a, c)]) h1 r1 ps q _ _ fun d M' G' v H' hq sg h' rv => ?_
  obtain ⟨c', new, rfl, hq⟩ := hq
  refine hR d _ G' v H' hq (s1.trans sg) (h'.perm ?_) rv
  refine (List.Perm.append_left new (pm hm')).trans ?_
  exact List.perm_middle
end
end DL

/-! The D layer, part 6: operations by values, built-ins, methods, slices. -/
namespace DL
open PySem PySem.Spec PyProof.Rows L2

section
variable {X : Cx} {F : Fr} {Γ : DL.Env} {Q : D → DL.Env → Prop} {sl sl' : List (Option D)} {M M' R : Mem}

theorem wo_of {f : Value → Value → Sem Value} {r : R2} {d1 d2 : D} (h : OpR X f r) (q : ∀ G σ H x y, Holds F G Γ σ H → Rep G x d1 → Rep G y d2 → ∀ R, Good F Q G σ R → r x y H R) : WO X F f d1 d2 Γ Q :=
  fun G σ H x y hh r1 r2 R hR pins s v u I rx ry => h pins s σ H x y v u R I rx ry (q G σ H x y hh r1 r2 R hR)
theorem wo_I0 {f : Value → Value → Sem Value} {g : Int → Int → V} {i j : Int} {d : D} (h : OpR X f (rI0 g)) (rd : ∀ G, Rep G (g i j) d) (q : Q d Γ) : WO X F f (.int i) (.int j) Γ Q :=
  wo_of h fun G σ H x y hh r1 r2 R hR => ⟨i, j, r1.int_inv, r2.int_inv, hR.here hh q (rd G)⟩
theorem wo_I {f : Value → Value → Sem Value} {C : Int → Int → Prop} {g : Int → Int → V} {i j : Int} {d : D} (h : OpR X f (rI C g)) (hc : C i j) (rd : ∀ G, Rep G (g i j) d) (q : Q d Γ) : WO X F f (.int i) (.int j) Γ Q :=
  wo_of h fun G σ H x y hh r1 r2 R hR => ⟨i, j, r1.int_inv, r2.int_inv, hc, hR.here hh q (rd G)⟩
variable {i j : Int}
theorem wo_add (q : Q (.int (i + j)) Γ) : WO X F (binaryOp .Add) (.int i) (.int j) Γ Q := wo_I0 op_add (fun _ => .int _) q
theorem wo_sub (q : Q (.int (i - j)) Γ) : WO X F (binaryOp .Sub) (.int i) (.int j) Γ Q := wo_I0 op_sub (fun _ => .int _) q
theorem wo_mul (hc : CMulW i j) (q : Q (.int (i * j)) Γ) : WO X F (binaryOp .Mult) (.int i) (.int j) Γ Q := wo_I op_mulW hc (fun _ => .int _) q
theorem wo_mulS (hc : CMul i j) (q : Q (.int (i * j)) Γ) : WO X F (binaryOp .Mult) (.int i) (.int j) Γ Q := wo_I op_mul hc (fun _ => .int _) q
theorem wo_fdiv (h0 : 0 < j) (h9 : j.natAbs.log2 < 9000) (q : Q (.int (i / j)) Γ) : WO X F (binaryOp .FloorDiv) (.int i) (.int j) Γ Q := wo_I op_fdivW ⟨h0, h9⟩ (fun _ => .int _) q
theorem wo_mod (h0 : 0 < j) (q : Q (.int (i % j)) Γ) : WO X F (binaryOp .Mod) (.int i) (.int j) Γ Q := wo_I op_mod h0 (fun _ => .int _) q
theorem wo_pow (hc : CPow i j) (q : Q (.int (i ^ j.toNat)) Γ) : WO X F (binaryOp .Pow) (.int i) (.int j) Γ Q := wo_I op_pow hc (fun _ => .int _) q
/-- a written power -/
class PowL (i j : Int) (r : outParam Int) : Prop where
  c : CPow i j
  e : i ^ j.toNat = r
instance : PowL 2 64 18446744073709551616 := ⟨⟨by decide, by decide, by decide⟩, by decide⟩
instance : PowL 2 29 536870912 := ⟨⟨by decide, by decide, by decide⟩, by decide⟩
instance : PowL 2 32 4294967296 := ⟨⟨by decide, by decide, by decide⟩, by decide⟩
instance : PowL 10 18 1000000000000000000 := ⟨⟨by decide, by decide, by decide⟩, by decide⟩
instance : PowL 10 30 1000000000000000000000000000000 := ⟨⟨by decide, by decide, by decide⟩, by decide⟩
instance : PowL 10 12 1000000000000 := ⟨⟨by decide, by decide, by decide⟩, by decide⟩
instance : PowL 10 9 1000000000 := ⟨⟨by decide, by decide, by decide⟩, by decide⟩
instance : PowL 10 6 1000000 := ⟨⟨by decide, by decide, by decide⟩, by decide⟩
instance : PowL 10 60 (10 ^ 60) := ⟨⟨by decide, by decide, by decide⟩, by decide⟩
theorem wo_powL {r : Int} [h : PowL i j r] (q : Q (.int r) Γ) : WO X F (binaryOp .Pow) (.int i) (.int j) Γ Q := wo_I op_pow h.c (fun _ => by rw [h.e]; exact .int _) q
theorem wo_xor (q : Q (.int (Builtin.bitXor i j)) Γ) : WO X F (binaryOp .BitXor) (.int i) (.int j) Γ Q := wo_I0 op_xor (fun _ => .int _) q
theorem wo_and (q : Q (.int (Builtin.bitAnd i j)) Γ) : WO X F (binaryOp .BitAnd) (.int i) (.int j) Γ Q := wo_I0 op_and (fun _ => .int _) q
theorem wo_or (q : Q (.int (Builtin.bitOr i j)) Γ) : WO X F (binaryOp .BitOr) (.int i) (.int j) Γ Q := wo_I0 op_or (fun _ => .int _) q
theorem wo_lt (q : Q (.bl (decide (i < j))) Γ) : WO X F (compareOp .Lt) (.int i) (.int j) Γ Q := wo_I0 op_lt (fun _ => .bl _) q
theorem wo_le (q : Q (.bl (decide (i ≤ j))) Γ) : WO X F (compareOp .LtE) (.int i) (.int j) Γ Q := wo_I0 op_le (fun _ => .bl _) q
theorem wo_gt (q : Q (.bl (decide (j < i))) Γ) : WO X F (compareOp .Gt) (.int i) (.int j) Γ Q := wo_I0 op_gt (fun _ => .bl _) q
theorem wo_ge (q : Q (.bl (decide (j ≤ i))) Γ) : WO X F (compareOp .GtE) (.int i) (.int j) Γ Q := wo_I0 op_ge (fun _ => .bl _) q
theorem wo_eqI (q : Q (.bl (decide (i = j))) Γ) : WO X F (compareOp .Eq) (.int i) (.int j) Γ Q :=
  wo_of op_eq fun G σ H x y hh r1 r2 R hR => by
    rw [r1.int_inv, r2.int_inv]
    refine ⟨rfl, ?_⟩
    have e : decide (V.int i = V.int j) = decide (i = j) := by rw [dec_int]; rfl
    rw [e]; exact hR.here hh q (.bl _)
theorem wo_neI (q : Q (.bl (!decide (i = j))) Γ) : WO X F (compareOp .NotEq) (.int i) (.int j) Γ Q :=
  wo_of op_ne fun G σ H x y hh r1 r2 R hR => by
    rw [r1.int_inv, r2.int_inv]
    refine ⟨rfl, ?_⟩
    have e : decide (V.int i = V.int j) = decide (i = j) := by rw [dec_int]; rfl
    rw [e]; exact hR.here hh q (.bl _)
variable {z w : Str}
theorem wo_eqS (q : Q (.bl (decide (z = w))) Γ) : WO X F (compareOp .Eq) (.str z) (.str w) Γ Q :=
  wo_of op_eq fun G σ H x y hh r1 r2 R hR => by
    rw [r1.str_inv, r2.str_inv]
    refine ⟨rfl, ?_⟩
    have e : decide (V.str z = V.str w) = decide (z = w) := by
      by_cases h : z = w
      · subst h; simp
      · rw [decide_eq_false h, decide_eq_false fun e => h (V.str.inj e)]
    rw [e]; exact hR.here hh q (.bl _)
theorem wo_neS (q : Q (.bl (!decide (z = w))) Γ) : WO X F (compareOp .NotEq) (.str z) (.str w) Γ Q :=
  wo_of op_ne fun G σ H x y hh r1 r2 R hR => by
    rw [r1.str_inv, r2.str_inv]
    refine ⟨rfl, ?_⟩
    have e : decide (V.str z = V.str w) = decide (z = w) := by
      by_cases h : z = w
      · subst h; simp
      · rw [decide_eq_false h, decide_eq_false fun e => h (V.str.inj e)]
    rw [e]; exact hR.here hh q (.bl _)
theorem wo_addS (hz : z.length + w.length ≤ sizeLine) (q : Q (.str (z ++ w)) Γ) : WO X F (binaryOp .Add) (.str z) (.str w) Γ Q :=
  wo_of op_add_str fun G σ H x y hh r1 r2 R hR => ⟨z, w, r1.str_inv, r2.str_inv, hz, hR.here hh q (.str _)⟩
theorem wo_ltS (q : Q (.bl (decide (z.cps.toList < w.cps.toList))) Γ) : WO X F (compareOp .Lt) (.str z) (.str w) Γ Q :=
  wo_of op_lt_str fun G σ H x y hh r1 r2 R hR => ⟨z, w, r1.str_inv, r2.str_inv, hR.here hh q (.bl _)⟩
/-- is None -/
def isNon : D → Bool
  | .non => true
  | _ => false
theorem Rep.isNon {G : Hp} {v : V} {d : D} (r : Rep G v d) : decide (v = .non) = isNon d := by cases r <;> rfl
theorem wo_isN {d : D} (q : Q (.bl (isNon d)) Γ) : WO X F (compareOp .Is) d .non Γ Q :=
  wo_of op_isN fun G σ H x y hh r1 r2 R hR => ⟨r2.non_inv, by rw [r1.isNon]; exact hR.here hh q (.bl _)⟩
theorem wo_isnotN {d : D} (q : Q (.bl (!isNon d)) Γ) : WO X F (compareOp .IsNot) d .non Γ Q :=
  wo_of op_notN fun G σ H x y hh r1 r2 R hR => ⟨r2.non_inv, by rw [r1.isNon]; exact hR.here hh q (.bl _)⟩
theorem wu_neg (q : Q (.int (-i)) Γ) : WU X F (unaryOp .USub) (.int i) Γ Q :=
  fun G σ H x hh r1 R hR pins s v I rx => un_neg pins s σ H x v R I rx ⟨i, r1.int_inv, hR.here hh q (.int _)⟩
/-- dict membership -/
theorem wo_inK' (hX : Std X) {d : D} {kds : List (Key × D)} {k : Key} [sd : SeeK M R d kds] (q : Q (.bl (lookD kds k).isSome) ⟨sl, M, R⟩) : WO X F (compareOp .In) (kD k) d ⟨sl, M, R⟩ Q := wo_inK hX (neg := false) q
theorem wo_ninK' (hX : Std X) {d : D} {kds : List (Key × D)} {k : Key} [sd : SeeK M R d kds] (q : Q (.bl (!(lookD kds k).isSome)) ⟨sl, M, R⟩) : WO X F (compareOp .NotIn) (kD k) d ⟨sl, M, R⟩ Q := wo_inK hX (neg := true) q
theorem wo_inDT' (hX : Std X) {d : D} {kds : List (List Key × D)} {k : List Key} [sd : SeeDT M R d kds] (q : Q (.bl (lookD kds k).isSome) ⟨sl, M, R⟩) : WO X F (compareOp .In) (.tup (k.map kD)) d ⟨sl, M, R⟩ Q := wo_inDT hX (neg := false) q
theorem wo_ninDT' (hX : Std X) {d : D} {kds : List (List Key × D)} {k : List Key} [sd : SeeDT M R d kds] (q : Q (.bl (!(lookD kds k).isSome)) ⟨sl, M, R⟩) : WO X F (compareOp .NotIn) (.tup (k.map kD)) d ⟨sl, M, R⟩ Q := wo_inDT hX (neg := true) q

/-! ### lists -/
/-- a list at hand, by its own place (not locked) -/
class PlL (M : Mem) (d : D) (ds : outParam (List D)) : Prop where
  h : ∀ (F : Fr) (G : Hp) (sl : List (Option D)) (R : Mem) (σ : L2.St) (H : Hp) (v : V), Holds F G ⟨sl, M, R⟩ σ H → Rep G v d → ∃ p vs, v = .ref p ∧ H p = some (.lst vs) ∧ Reps G vs ds
instance PlL.self {ds : List D} : PlL M (.lst ds) ds := ⟨fun F G sl R σ H v hh r => by
  obtain ⟨p, vs, rfl, e, rr⟩ := r.lst_inv
  exact ⟨p, vs, rfl, hh.gh _ _ e, rr⟩⟩
instance PlL.own {p : Addr} {ds : List D} {k : Nat} [h : At M p (.lst ds) k] : PlL M (.ref p) ds := ⟨fun F G sl R σ H v hh r => by
  obtain ⟨_, _, o, ho, hs⟩ := hh.mem.at_ _ (List.mem_of_getElem? h.e)
  obtain ⟨vs, rfl, hr⟩ := hs.lst_inv
  exact ⟨p, vs, r.ref_inv, ho, hr⟩⟩
theorem wo_cat {d1 d2 : D} {xs ys : List D} [h1 : PlL M d1 xs] [h2 : PlL M d2 ys] (hz : xs.length + ys.length ≤ sizeLine) (q : ∀ p, Q (.ref p) ⟨sl, (p, .lst (xs ++ ys)) :: M, R⟩) : WO X F (binaryOp .Add) d1 d2 ⟨sl, M, R⟩ Q :=
  wo_of op_cat fun G σ H x y hh r1 r2 K hK => by
    obtain ⟨p, vs, rfl, e, rr⟩ := h1.h F G sl R σ H x hh r1
    obtain ⟨p', vs', rfl, e', rr'⟩ := h2.h F G sl R σ H y hh r2
    exact ⟨p, p', vs, vs', rfl, rfl, e, e', by rw [rr.1, rr'.1]; exact hz, fun a ha => hK _ _ G _ _ (q a) (Same.refl G) (hh.newOwn ha (.lst (rr.append rr'))) (.ref a)⟩
theorem wo_catT {xs ys : List D} (hx : xs ≠ []) (hz : xs.length + ys.length ≤ sizeLine) (q : Q (.tup (xs ++ ys)) Γ) : WO X F (binaryOp .Add) (.tup xs) (.tup ys) Γ Q :=
  wo_of op_catT fun G σ H x y hh r1 r2 K hK => by
    obtain ⟨p, vs, rfl, e, rr⟩ := r1.tup_inv
    obtain ⟨p', vs', rfl, e', rr'⟩ := r2.tup_inv
    refine ⟨p, p', vs, vs', rfl, rfl, .inl (.inl (hh.gh _ _ e)), .inl (.inl (hh.gh _ _ e')), fun z => hx ?_, by rw [rr.1, rr'.1]; exact hz, fun z => ?_, fun _ a ha => ?_⟩
    · subst z; exact List.eq_nil_of_length_eq_zero rr.1.symm
    · subst z
      have : ys = [] := List.eq_nil_of_length_eq_zero rr'.1.symm
      subst this
      rw [List.append_nil] at q
      exact hK.here hh q r1
    · obtain ⟨sg, h2⟩ := hh.newSh (o := .tup (vs ++ vs')) ha
      have ra := (rr.append rr').mono sg
      exact hK _ _ _ _ _ q sg h2 (.tup upd_same ra.1 ra.2)

/-! ### calls of built-ins -/
structure BltAt (X : Cx) (x : Str) (v : Value) : Prop where
  gl : Gl X x
  mg : X.mg x = none
  bv : bootBuiltins x = some v
  hn : x ≠ "__name__"
  hdb : (x == ("__debug__" : Str)) = false
section
variable {x : Str} {p pos : Pos} {e : Expr} {es : List Expr} {id T : String}
theorem we_blt (b : BltAt X x (.builtin id)) (he : starEach (e :: es) X.env = (false, eval e X.env) :: starEach es X.env) (hpl : (backTo pos (starEach es X.env)).any (·.1) = false)
    (h : WA X F (e :: es) Γ fun ds Γ1 => WC X F (.builtin id) ds Γ1 Q) : WE X F (.Call (.Name x p) (e :: es) [] pos) Γ Q := fun G σ H hh R hR pins s I => by
  refine wpAny_Call_Name_kw (ld_blt I b.gl b.mg b.bv ?_ b.hn b.hdb)
  have ha : tUA X (e :: es) σ H fun vs H1 => ∀ (pins : List (Addr × Obj)) (s : Shared) (us : List Value), Inv X pins σ H1 s → Vals vs us → wpAny (model X.prog X.w) X.A (call (.builtin id) us) (EP X pins σ R) X.xe s :=
    h G σ H hh _ fun ds Γ1 G1 vs H1 q s1 h1 r1 => q G1 σ H1 vs h1 r1 R (hR.later s1)
  exact PyProof.Rows.callWith_builtin1 (thn (ha pos pins s I) fun us s1 ⟨vs, H1, I1, r1, q1⟩ => q1 pins s1 us I1 r1) he hpl
theorem we_typ (b : BltAt X x (.type T)) (he : starEach (e :: es) X.env = (false, eval e X.env) :: starEach es X.env) (hpl : (backTo pos (starEach es X.env)).any (·.1) = false)
    (h : WA X F (e :: es) Γ fun ds Γ1 => WC X F (.type T) ds Γ1 Q) : WE X F (.Call (.Name x p) (e :: es) [] pos) Γ Q := fun G σ H hh R hR pins s I => by
  refine wpAny_Call_Name_kw (ld_blt I b.gl b.mg b.bv ?_ b.hn b.hdb)
  have ha : tUA X (e :: es) σ H fun vs H1 => ∀ (pins : List (Addr × Obj)) (s : Shared) (us : List Value), Inv X pins σ H1 s → Vals vs us → wpAny (model X.prog X.w) X.A (call (.type T) us) (EP X pins σ R) X.xe s :=
    h G σ H hh _ fun ds Γ1 G1 vs H1 q s1 h1 r1 => q G1 σ H1 vs h1 r1 R (hR.later s1)
  exact PyProof.Rows.callWith_type1 (thn (ha pos pins s I) fun us s1 ⟨vs, H1, I1, r1, q1⟩ => q1 pins s1 us I1 r1) he hpl
/-- a type's name as a value -/
theorem we_tyName (b : BltAt X x (.type T)) (q : Q (.ty T) Γ) : WE X F (.Name x p) Γ Q := fun G σ H hh R hR =>
  tU_of (pe_bltn (v := .ty T) b.gl b.mg b.bv rfl b.hn b.hdb) (hR.here hh q (.ty T))
end
theorem wc_of {f : Value} {ds : List D} {r : List V → Hp → VK → Prop} (h : CallR X f r) (q : ∀ G σ H xs, Holds F G Γ σ H → Reps G xs ds → ∀ R, Good F Q G σ R → r xs H R) : WC X F f ds Γ Q :=
  fun G σ H xs hh rr R hR pins s us I rv => h pins s σ H xs us R I rv (q G σ H xs hh rr R hR)
theorem wc_abs (q : Q (.int (if i < 0 then -i else i)) Γ) : WC X F (.builtin "abs") [.int i] Γ Q := wc_of call_abs fun G σ H xs hh rr R hR => by
  obtain ⟨v, rfl, r⟩ := rr.one
  exact ⟨i, by rw [r.int_inv], hR.here hh q (.int _)⟩
theorem wc_int (q : Q (.int i) Γ) : WC X F (.type "int") [.int i] Γ Q := wc_of call_int1 fun G σ H xs hh rr R hR => by
  obtain ⟨v, rfl, r⟩ := rr.one
  exact .inl ⟨i, by rw [r.int_inv], hR.here hh q (.int _)⟩
theorem wc_intB {b : Bool} (q : Q (.int (if b then 1 else 0)) Γ) : WC X F (.type "int") [.bl b] Γ Q := wc_of call_int1 fun G σ H xs hh rr R hR => by
  obtain ⟨v, rfl, r⟩ := rr.one
  exact .inr ⟨b, by rw [r.bl_inv], hR.here hh q (.int _)⟩
theorem wc_strI (hi : i.natAbs.log2 < 1920) (q : Q (.str (toString i)) Γ) : WC X F (.type "str") [.int i] Γ Q := wc_of call_str_int fun G σ H xs hh rr R hR => by
  obtain ⟨v, rfl, r⟩ := rr.one
  exact ⟨i, by rw [r.int_inv], hi, hR.here hh q (.str _)⟩
theorem wc_max2 (hX : Std X) (q : Q (.int (if j > i then j else i)) Γ) : WC X F (.builtin "max") [.int i, .int j] Γ Q := wc_of (call_max2 hX.calm) fun G σ H xs hh rr R hR => by
  obtain ⟨v, u, rfl, r1, r2⟩ := rr.two
  exact ⟨i, j, by rw [r1.int_inv, r2.int_inv], hR.here hh q (.int _)⟩
theorem wc_min2 (hX : Std X) (q : Q (.int (if j < i then j else i)) Γ) : WC X F (.builtin "min") [.int i, .int j] Γ Q := wc_of (call_min2 hX.calm) fun G σ H xs hh rr R hR => by
  obtain ⟨v, u, rfl, r1, r2⟩ := rr.two
  exact ⟨i, j, by rw [r1.int_inv, r2.int_inv], hR.here hh q (.int _)⟩
theorem wc_len {d : D} {ds : List D} [sd : SeeQ M R d ds] (q : Q (.int (ds.length : Int)) ⟨sl, M, R⟩) : WC X F (.builtin "len") [d] ⟨sl, M, R⟩ Q := wc_of call_len_seq fun G σ H xs hh rr K hK => by
  obtain ⟨v, rfl, r⟩ := rr.one
  rcases sd.see with s | s
  · obtain ⟨p, vs, rfl, hS, hr⟩ := hh.seeL (K := X.K) r s
    exact ⟨p, vs, rfl, .inl hS, by rw [hr.1]; exact hK.here hh q (.int _)⟩
  · obtain ⟨p, vs, rfl, hS, hr⟩ := hh.seeT (K := X.K) r s
    exact ⟨p, vs, rfl, .inr hS, by rw [hr.1]; exact hK.here hh q (.int _)⟩
theorem wc_lenS (hz : z.length ≤ sizeLine) (q : Q (.int (z.length : Int)) Γ) : WC X F (.builtin "len") [.str z] Γ Q := wc_of call_len_str fun G σ H xs hh rr K hK => by
  obtain ⟨v, rfl, r⟩ := rr.one
  exact ⟨z, by rw [r.str_inv], hz, hK.here hh q (.int _)⟩
theorem wc_list {d : D} {ds : List D} [sd : SeeQ M R d ds] (q : ∀ p, Q (.ref p) ⟨sl, (p, .lst ds) :: M, R⟩) : WC X F (.type "list") [d] ⟨sl, M, R⟩ Q := wc_of call_list_of fun G σ H xs hh rr K hK => by
  obtain ⟨v, rfl, r⟩ := rr.one
  rcases sd.see with s | s
  · obtain ⟨p, vs, rfl, hS, hr⟩ := hh.seeL (K := X.K) r s
    exact ⟨p, vs, rfl, .inl hS, fun a ha => hK _ _ G _ _ (q a) (Same.refl G) (hh.newOwn ha (.lst hr)) (.ref a)⟩
  · obtain ⟨p, vs, rfl, hS, hr⟩ := hh.seeT (K := X.K) r s
    exact ⟨p, vs, rfl, .inr hS, fun a ha => hK _ _ G _ _ (q a) (Same.refl G) (hh.newOwn ha (.lst hr)) (.ref a)⟩
theorem wc_tuple {d : D} {ds : List D} [sd : SeeL M R d ds] (q : Q (.tup ds) ⟨sl, M, R⟩) : WC X F (.type "tuple") [d] ⟨sl, M, R⟩ Q := wc_of call_tuple_of fun G σ H xs hh rr K hK => by
  obtain ⟨v, rfl, r⟩ := rr.one
  obtain ⟨p, vs, rfl, hS, hr⟩ := hh.seeL (K := X.K) r sd.see
  refine ⟨p, vs, rfl, .inl ⟨hS, fun a ha => ?_⟩⟩
  obtain ⟨sg, h2⟩ := hh.newSh (o := .tup vs) ha
  have ra := hr.mono sg
  exact hK _ _ _ _ _ q sg h2 (.tup upd_same ra.1 ra.2)
theorem wc_tupleT {ds : List D} (q : Q (.tup ds) Γ) : WC X F (.type "tuple") [.tup ds] Γ Q := wc_of call_tupleT fun G σ H xs hh rr K hK => by
  obtain ⟨v, rfl, r⟩ := rr.one
  obtain ⟨p, vs, rfl, e, rr'⟩ := r.tup_inv
  exact ⟨p, vs, rfl, .inl (.inl (hh.gh _ _ e)), hK.here hh q r⟩
theorem reps_ints {G : Hp} : ∀ {ns : List Int} {vs : List V}, Reps G vs (ns.map D.int) → vs = ns.map V.int
  | [], vs, h => h.nil_inv
  | n :: ns, vs, h => by
    obtain ⟨v, vr, rfl, a, b⟩ := Reps.cons_inv (ds := ns.map D.int) h
    rw [a.int_inv, reps_ints b]; rfl
theorem reps_of_ints {G : Hp} : ∀ {ns : List Int}, Reps G (ns.map V.int) (ns.map D.int)
  | [] => Reps.nil
  | n :: ns => Reps.cons (.int n) reps_of_ints
theorem reps_strs {G : Hp} : ∀ {ns : List Str} {vs : List V}, Reps G vs (ns.map D.str) → vs = ns.map V.str
  | [], vs, h => h.nil_inv
  | n :: ns, vs, h => by
    obtain ⟨v, vr, rfl, a, b⟩ := Reps.cons_inv (ds := ns.map D.str) h
    rw [a.str_inv, reps_strs b]; rfl
theorem reps_bls {G : Hp} : ∀ {ns : List Bool} {vs : List V}, Reps G vs (ns.map D.bl) → vs = ns.map V.bl
  | [], vs, h => h.nil_inv
  | n :: ns, vs, h => by
    obtain ⟨v, vr, rfl, a, b⟩ := Reps.cons_inv (ds := ns.map D.bl) h
    rw [a.bl_inv, reps_bls b]; rfl
theorem wc_sum (hX : Std X) {d : D} {ns : List Int} [sd : SeeL M R d (ns.map D.int)] (q : Q (.int ns.sum) ⟨sl, M, R⟩) : WC X F (.builtin "sum") [d] ⟨sl, M, R⟩ Q := wc_of (cr_sum hX.calm) fun G σ H xs hh rr K hK => by
  obtain ⟨v, rfl, r⟩ := rr.one
  obtain ⟨p, vs, rfl, hS, hr⟩ := hh.seeL (K := X.K) r sd.see
  rw [reps_ints hr] at hS
  exact ⟨p, ns, rfl, hS, hK.here hh q (.int _)⟩
theorem wc_all (hX : Std X) {d : D} {ds : List D} (bs : List Bool) [sd : SeeL M R d ds] (e : ds = bs.map D.bl) (q : Q (.bl (bs.all id)) ⟨sl, M, R⟩) : WC X F (.builtin "all") [d] ⟨sl, M, R⟩ Q := wc_of (cr_all hX.calm) fun G σ H xs hh rr K hK => by
  obtain ⟨v, rfl, r⟩ := rr.one
  obtain ⟨p, vs, rfl, hS, hr⟩ := hh.seeL (K := X.K) r sd.see
  rw [e] at hr
  rw [reps_bls hr] at hS
  exact ⟨p, bs, rfl, hS, hK.here hh q (.bl _)⟩
theorem wc_any (hX : Std X) {d : D} {ds : List D} (bs : List Bool) [sd : SeeL M R d ds] (e : ds = bs.map D.bl) (q : Q (.bl (bs.any id)) ⟨sl, M, R⟩) : WC X F (.builtin "any") [d] ⟨sl, M, R⟩ Q := wc_of (cr_any hX.calm) fun G σ H xs hh rr K hK => by
  obtain ⟨v, rfl, r⟩ := rr.one
  obtain ⟨p, vs, rfl, hS, hr⟩ := hh.seeL (K := X.K) r sd.see
  rw [e] at hr
  rw [reps_bls hr] at hS
  exact ⟨p, bs, rfl, hS, hK.here hh q (.bl _)⟩
/-- isinstance(x, T), T a built-in type's name; the value's own type by its make -/
class TyD (M R : Mem) (d : D) (t : outParam String) : Prop where
  h : ∀ (K : PySem.W.Frag) (F : Fr) (G : Hp) (sl : List (Option D)) (σ : L2.St) (H : Hp) (v : V), Holds F G ⟨sl, M, R⟩ σ H → Rep G v d → TyX K H v (.type t)
instance TyD.non : TyD M R .non "NoneType" := ⟨fun K F G sl σ H v hh r => by rw [r.non_inv]; exact .base .non⟩
instance TyD.bl {b : Bool} : TyD M R (.bl b) "bool" := ⟨fun K F G sl σ H v hh r => by rw [r.bl_inv]; exact .base (.bl b)⟩
instance TyD.int {i : Int} : TyD M R (.int i) "int" := ⟨fun K F G sl σ H v hh r => by rw [r.int_inv]; exact .base (.int i)⟩
instance TyD.str {z : Str} : TyD M R (.str z) "str" := ⟨fun K F G sl σ H v hh r => by rw [r.str_inv]; exact .base (.str z)⟩
instance TyD.lst {d : D} {ds : List D} [sd : SeeL M R d ds] : TyD M R d "list" := ⟨fun K F G sl σ H v hh r => by
  rcases hh.see r sd.see with ⟨p, o, rfl, ho, hs⟩ | ⟨rfl, r⟩
  · obtain ⟨vs, rfl, _⟩ := hs.lst_inv
    rcases ho with ho | ⟨ob, ho⟩
    · exact .base (.lst ho)
    · exact .base (.frz ho)
  · obtain ⟨p, vs, rfl, e, _⟩ := r.lst_inv
    exact .base (.lst (hh.gh _ _ e))⟩
instance TyD.tup {d : D} {ds : List D} [sd : SeeT M R d ds] : TyD M R d "tuple" := ⟨fun K F G sl σ H v hh r => by
  rcases hh.see r sd.see with ⟨p, o, rfl, ho, hs⟩ | ⟨rfl, r⟩
  · obtain ⟨vs, rfl, _⟩ := hs.tup_inv
    rcases ho with ho | ⟨ob, ho⟩
    · exact .base (.tup ho)
    · exact .fTuple ho
  · obtain ⟨p, vs, rfl, e, _⟩ := r.tup_inv
    exact .base (.tup (hh.gh _ _ e))⟩
instance TyD.dK {d : D} {ds : List (Key × D)} [sd : SeeK M R d ds] : TyD M R d "dict" := ⟨fun K F G sl σ H v hh r => by
  obtain ⟨p, kvs, rfl, ho, _⟩ := hh.seeK r sd.see
  rcases ho with ho | ⟨ob, ho⟩
  · exact .base (.dK ho)
  · exact .fDict ho⟩
theorem wc_isi {d : D} {t T : String} {b : Bool} [h : TyD M R d t] (hb : kitB t T = some b) (q : Q (.bl b) ⟨sl, M, R⟩) : WC X F (.builtin "isinstance") [d, .ty T] ⟨sl, M, R⟩ Q := wc_of call_isi fun G σ H xs hh rr K hK => by
  obtain ⟨v, u, rfl, r1, r2⟩ := rr.two
  cases r2
  exact ⟨v, .ty T, _, _, b, rfl, .ty T, h.h X.K F G sl σ H v hh r1, kit_ty hb, hK.here hh q (.bl b)⟩

/-! ### methods of lists -/
def TyM (X : Cx) (F : Fr) (T : String) (d : D) (Γ : DL.Env) : Prop := ∀ G σ H v, Holds F G Γ σ H → Rep G v d → tyV X.K T v H
theorem tym_list {d : D} {ds : List D} [sd : SeeL M R d ds] : TyM X F "list" d ⟨sl, M, R⟩ := fun G σ H v hh r => by
  obtain ⟨p, vs, rfl, hS, _⟩ := hh.seeL (K := X.K) r sd.see
  exact .inl ⟨rfl, vs, hS⟩
theorem tym_str : TyM X F "str" (.str z) Γ := fun G σ H v hh r => by rw [r.str_inv]; rfl
theorem tym_dK {p : Addr} {kds : List (Key × D)} {k : Nat} [h : At M p (.dK kds) k] : TyM X F "dict" (.ref p) ⟨sl, M, R⟩ := fun G σ H v hh r => by
  obtain ⟨_, _, o, ho, hs⟩ := hh.mem.at_ _ (List.mem_of_getElem? h.e)
  obtain ⟨kvs, rfl, _⟩ := hs.dK_inv
  rw [r.ref_inv]
  exact .inr (.inr (.inl ⟨rfl, .inl ⟨kvs, ho⟩⟩))
/-- a method of a built-in type, by values -/
def WM (X : Cx) (F : Fr) (id : String) (o : D) (ds : List D) (Γ : DL.Env) (Q : D → DL.Env → Prop) : Prop :=
  ∀ G σ H x xs, Holds F G Γ σ H → Rep G x o → Reps G xs ds → ∀ R, Good F Q G σ R → ∀ (pins : List (Addr × Obj)) (s : Shared) (v : Value) (us : List Value), Inv X pins σ H s → RelV x v → Vals xs us → wpAny (model X.prog X.w) X.A (call (.builtin id) (v :: us)) (EP X pins σ R) X.xe s
section
variable {o e : Expr} {es : List Expr} {name : Str} {apos cpos : Pos} {T id : String}
theorem we_bm0 (pa : PlainAttrs T) (slot : Slot T name id) (hty : typeOf (.builtin id) = pure (.type "method_descriptor")) (hbase : attributeBase o name X.env (eval o X.env) = eval o X.env) (hline : (apos.endLine == cpos.line) = true)
    (h : WE X F o Γ fun d Γ1 => TyM X F T d Γ1 ∧ WM X F id d [] Γ1 Q) : WE X F (.Call (.Attribute o name apos) [] [] cpos) Γ Q := fun G σ H hh R hR pins s I => by
  have ho : tU X o σ H fun x H1 => tyV X.K T x H1 ∧ ∀ (pins : List (Addr × Obj)) (s : Shared) (v : Value) (us : List Value), Inv X pins σ H1 s → RelV x v → Vals [] us → wpAny (model X.prog X.w) X.A (call (.builtin id) (v :: us)) (EP X pins σ R) X.xe s :=
    h G σ H hh _ fun d Γ1 G1 v H1 q s1 h1 r1 => ⟨q.1 G1 σ H1 v h1 r1, q.2 G1 σ H1 v [] h1 r1 Reps.nil R (hR.later s1)⟩
  refine wpAny_Call_method0_late hbase hline (thn (ho pins s I) fun v s1 ⟨x, H1, I1, r1, ty, q1⟩ => ?_)
  obtain ⟨h1, h2⟩ := tyV_is I1 r1 ty
  exact ⟨T, id, pa, slot, hty, h1, h2, Calls.callWith_builtin rfl (PySem.evalArgs_none (q1 pins s1 v [] I1 r1 .nil))⟩
theorem we_bm (pa : PlainAttrs T) (slot : Slot T name id) (hty : typeOf (.builtin id) = pure (.type "method_descriptor")) (hbase : attributeBase o name X.env (eval o X.env) = eval o X.env)
    (hfew : ((backTo cpos (starEach (e :: es) X.env)).all (fun x => !x.1) && (backToKw cpos (keywordEach [] X.env)).all (fun x => x.1.isSome)
      && decide ((e :: es).length + ([] : List Keyword).length + (if ([] : List Keyword).isEmpty then 0 else 1) < 30)) = true)
    (hline : (apos.endLine == cpos.line) = true) (hs : starEach (e :: es) X.env = (false, eval e X.env) :: starEach es X.env) (hplain : (backTo cpos (starEach es X.env)).any (·.1) = false)
    (h : WE X F o Γ fun d Γ1 => TyM X F T d Γ1 ∧ WAV X F (e :: es) Γ1 fun ds Γ2 => WM X F id d ds Γ2 Q) : WE X F (.Call (.Attribute o name apos) (e :: es) [] cpos) Γ Q := fun G σ H hh R hR pins s I => by
  have ho : tU X o σ H fun x H1 => tyV X.K T x H1 ∧ tUA X (e :: es) σ H1 fun xs H2 => ∀ (pins : List (Addr × Obj)) (s : Shared) (v : Value) (us : List Value), Inv X pins σ H2 s → RelV x v → Vals xs us → wpAny (model X.prog X.w) X.A (call (.builtin id) (v :: us)) (EP X pins σ R) X.xe s :=
    h G σ H hh _ fun d Γ1 G1 v H1 q s1 h1 r1 => ⟨q.1 G1 σ H1 v h1 r1, q.2 G1 σ H1 h1 _ fun ds Γ2 G2 vs H2 q2 s2 h2 r2 => q2 G2 σ H2 v vs h2 (r1.mono s2) r2 R (hR.later (s1.trans s2))⟩
  refine wpAny_Call_method_late hbase hfew hline rfl (thn (ho pins s I) fun v s1 ⟨x, H1, I1, r1, ty, q1⟩ => ?_)
  obtain ⟨h1, h2⟩ := tyV_is I1 r1 ty
  refine ⟨T, id, pa, slot, hty, h1, h2, ?_⟩
  have hA := q1 cpos pins s1 I1
  rw [hs] at hA ⊢
  refine Calls.callWith_builtin (by show (false || (backTo cpos (starEach es X.env)).any (·.1)) = false; rw [hplain] <;> rfl) (Calls.evalArgs_plain ?_)
  exact thn hA fun us s2 ⟨xs, H2, I2, rs, q2⟩ => q2 pins s2 v us I2 r1 rs
end
theorem wm_of {id : String} {o : D} {ds : List D} {r : V → List V → Hp → VK → Prop} (h : MtR X id r) (q : ∀ G σ H x xs, Holds F G Γ σ H → Rep G x o → Reps G xs ds → ∀ R, Good F Q G σ R → r x xs H R) : WM X F id o ds Γ Q :=
  fun G σ H x xs hh r1 r2 R hR pins s v us I rv rs => h pins s σ H x xs v us R I rv rs (q G σ H x xs hh r1 r2 R hR)
section
variable {p : Addr} {xs : List D} {k : Nat} {v : D}
theorem wm_append [h : At M p (.lst xs) k] [h2 : SetM M k (p, .lst (xs ++ [v])) M'] (hl : xs.length < sizeLine) (q : Q .non ⟨sl, M', R⟩) : WM X F "list.append" (.ref p) [v] ⟨sl, M, R⟩ Q := wm_of mt_append fun G σ H x ys hh r1 r2 K hK => by
  obtain ⟨_, _, o, ho, hs⟩ := hh.mem.at_ _ (List.mem_of_getElem? h.e)
  obtain ⟨vs, rfl, hr⟩ := hs.lst_inv
  obtain ⟨y, rfl, ry⟩ := r2.one
  have hw := hh.write h.e (o' := .lst (vs ++ [y])) (.lst (hr.append (Reps.cons ry Reps.nil)))
  rw [← h2.e] at hw
  exact ⟨p, vs, y, r1.ref_inv, rfl, ho, by rw [hr.1]; exact hl, hK _ _ G _ _ q (Same.refl G) hw .non⟩
theorem wm_pop {x : D} [h : At M p (.lst (xs ++ [x])) k] [h2 : SetM M k (p, .lst xs) M'] (q : Q x ⟨sl, M', R⟩) : WM X F "list.pop" (.ref p) [] ⟨sl, M, R⟩ Q := wm_of mt_pop fun G σ H y ys hh r1 r2 K hK => by
  obtain ⟨_, _, o, ho, hs⟩ := hh.mem.at_ _ (List.mem_of_getElem? h.e)
  obtain ⟨vs, rfl, hr⟩ := hs.lst_inv
  have e : (xs ++ [x])[vs.length - 1]? = some x := by rw [hr.1]; simp
  obtain ⟨w, hw, rw'⟩ := hr.get e
  have hwr := hh.write h.e (o' := .lst vs.dropLast) (.lst (by have := hr.dropLast; rw [List.dropLast_concat] at this; exact this))
  rw [← h2.e] at hwr
  exact ⟨p, vs, w, r1.ref_inv, r2.nil_inv, ho, hw, hK _ _ G _ _ q (Same.refl G) hwr rw'⟩
theorem wm_extend {d : D} {ys : List D} [h : At M p (.lst xs) k] [h1 : PlL M d ys] [h2 : SetM M k (p, .lst (xs ++ ys)) M'] (hl : xs.length + ys.length ≤ sizeLine) (q : Q .non ⟨sl, M', R⟩) : WM X F "list.extend" (.ref p) [d] ⟨sl, M, R⟩ Q := wm_of mt_extend fun G σ H x zs hh r1 r2 K hK => by
  obtain ⟨_, _, o, ho, hs⟩ := hh.mem.at_ _ (List.mem_of_getElem? h.e)
  obtain ⟨vs, rfl, hr⟩ := hs.lst_inv
  obtain ⟨y, rfl, ry⟩ := r2.one
  obtain ⟨b, us, rfl, hb, rb⟩ := h1.h F G sl R σ H y hh ry
  have hw := hh.write h.e (o' := .lst (vs ++ us)) (.lst (hr.append rb))
  rw [← h2.e] at hw
  exact ⟨p, b, vs, us, r1.ref_inv, rfl, ho, hb, by rw [hr.1, rb.1]; exact hl, hK _ _ G _ _ q (Same.refl G) hw .non⟩
end

/-! ### slices -/
def WPt (X : Cx) (F : Fr) (e : Option Expr) (Γ : DL.Env) (Q : Option Int → DL.Env → Prop) : Prop := ∀ G σ H, Holds F G Γ σ H → ∀ R : Option Int → Hp → Prop, (∀ o Γ' G' H', Q o Γ' → Same G G' → Holds F G' Γ' σ H' → R o H') →
  ∀ (pins : List (Addr × Obj)) (s : Shared), Inv X pins σ H s → wpAny (model X.prog X.w) X.A (evalPart e X.env) (fun u s' => ∃ o H', Inv X pins σ H' s' ∧ IsPart u o ∧ R o H') X.xe s
theorem wpt_none {Q : Option Int → DL.Env → Prop} (q : Q none Γ) : WPt X F none Γ Q := fun G σ H hh R hR pins s I => po_none.run pins s σ H R I (hR none Γ G H q (Same.refl G) hh)
theorem wpt_some {e : Expr} {Q : Option Int → DL.Env → Prop} (h : WE X F e Γ fun d Γ1 => ∃ i, d = .int i ∧ Q (some i) Γ1) : WPt X F (some e) Γ Q := fun G σ H hh R hR pins s I =>
  (po_some pe_U).run pins s σ H R I (h G σ H hh _ fun d Γ1 G1 v H1 q s1 h1 r => by
    obtain ⟨i, rfl, q⟩ := q
    exact ⟨i, r.int_inv, hR _ Γ1 G1 H1 q s1 h1⟩)
/-- a slice by values -/
def WSl (X : Cx) (F : Fr) (d : D) (lo hi : Option Int) (Γ : DL.Env) (Q : D → DL.Env → Prop) : Prop :=
  ∀ G σ H x, Holds F G Γ σ H → Rep G x d → ∀ R, Good F Q G σ R → ∀ (pins : List (Addr × Obj)) (s : Shared) (v vl vu : Value) (sl : Addr), Inv X pins σ H s → RelV x v → s.heap.IsSliceOf sl vl vu .none → IsPart vl lo → IsPart vu hi →
    ∃ T id, typeLookup (.type T) "__getitem__" = pure (some (.builtin id)) ∧ s.TypeIs v T ∧ wpAny (model X.prog X.w) X.A (getItem v (.ref sl)) (EP X pins σ R) X.xe s
theorem we_slice {e : Expr} {lo hi : Option Expr} {pos p2 : Pos} (h : WE X F e Γ fun d Γ1 => WPt X F lo Γ1 fun l Γ2 => WPt X F hi Γ2 fun u Γ3 => WSl X F d l u Γ3 Q) : WE X F (.Subscript e (.Slice lo hi none p2) pos) Γ Q := fun G σ H hh R hR pins s I => by
  let RS : V → Option Int → Option Int → Hp → Prop := fun x l u H3 => ∀ (pins : List (Addr × Obj)) (s : Shared) (v vl vu : Value) (sl : Addr), Inv X pins σ H3 s → RelV x v → s.heap.IsSliceOf sl vl vu .none → IsPart vl l → IsPart vu u →
    ∃ T id, typeLookup (.type T) "__getitem__" = pure (some (.builtin id)) ∧ s.TypeIs v T ∧ wpAny (model X.prog X.w) X.A (getItem v (.ref sl)) (EP X pins σ R) X.xe s
  let RH : V → Option Int → Hp → Prop := fun x l H2 => ∀ (pins : List (Addr × Obj)) (s : Shared), Inv X pins σ H2 s → wpAny (model X.prog X.w) X.A (evalPart hi X.env) (fun u s' => ∃ o H', Inv X pins σ H' s' ∧ IsPart u o ∧ RS x l o H') X.xe s
  let RL : V → Hp → Prop := fun x H1 => ∀ (pins : List (Addr × Obj)) (s : Shared), Inv X pins σ H1 s → wpAny (model X.prog X.w) X.A (evalPart lo X.env) (fun u s' => ∃ o H', Inv X pins σ H' s' ∧ IsPart u o ∧ RH x o H') X.xe s
  have he : tU X e σ H RL := h G σ H hh _ fun d Γ1 G1 x H1 q s1 h1 r1 => q G1 σ H1 h1 _ fun l Γ2 G2 H2 q2 s2 h2 => q2 G2 σ H2 h2 _ fun u Γ3 G3 H3 q3 s3 h3 =>
    q3 G3 σ H3 x h3 (r1.mono (s2.trans s3)) R (hR.later ((s1.trans s2).trans s3))
  refine Subscript_ (thn (he pins s I) fun v s1 ⟨x, H1, I1, r1, q1⟩ => ?_)
  refine wpAny_Slice (thn (q1 pins s1 I1) fun vl s2 ⟨l, H2, I2, pl, q2⟩ => thn (q2 pins s2 I2) fun vu s3 ⟨u, H3, I3, pu, q3⟩ => ?_)
  rw [evalPart_none]
  refine wpAny_pure ?_
  have I4 : Inv X pins σ H3 { s3 with heap := s3.heap.push { cls := .type "slice", data := .fields #[vl, vu, .none] } } := I3.kept (t' := s3.toks) fun b ob q => Heap.get?_push_of_some _ q
  obtain ⟨T, id, hT, ht, hg⟩ := q3 pins { s3 with heap := s3.heap.push { cls := .type "slice", data := .fields #[vl, vu, .none] } } v vl vu s3.heap.objs.size I4 r1 (Heap.IsSliceOf.new ..) pl pu
  show wpAny (model X.prog X.w) X.A (subscriptTail e (.Slice lo hi none p2) v (.ref s3.heap.objs.size)) (EP X pins σ R) X.xe { s3 with heap := s3.heap.push { cls := .type "slice", data := .fields #[vl, vu, .none] } }
  exact tail_any (ops := [.ref s3.heap.objs.size, v]) ht hT hg (by with_unfolding_all rfl)
theorem wsl_of {d : D} {lo hi : Option Int} {r : V → Option Int → Option Int → Hp → VK → Prop} (h : SlR X r) (q : ∀ G σ H x, Holds F G Γ σ H → Rep G x d → ∀ R, Good F Q G σ R → r x lo hi H R) : WSl X F d lo hi Γ Q :=
  fun G σ H x hh rx R hR pins s v vl vu sl I rv hs pl pu => h pins s σ H x v vl vu lo hi sl R I rv hs pl pu (q G σ H x hh rx R hR)
def cutD {α : Type} (xs : List α) (lo hi : Option Int) : List α := (xs.drop (HT.sIx xs.length 0 lo)).take (HT.sIx xs.length xs.length hi - HT.sIx xs.length 0 lo)
theorem cut_rep {G : Hp} {vs : List V} {ds : List D} (r : Reps G vs ds) (lo hi : Option Int) : Reps G (cutV vs lo hi) (cutD ds lo hi) := by
  unfold cutV cutD
  rw [r.1]
  exact (r.drop _).take _
theorem wsl_list {d : D} {ds : List D} {lo hi : Option Int} [sd : SeeL M R d ds] (q : ∀ p, Q (.ref p) ⟨sl, (p, .lst (cutD ds lo hi)) :: M, R⟩) : WSl X F d lo hi ⟨sl, M, R⟩ Q := wsl_of sl_list fun G σ H x hh rx K hK => by
  obtain ⟨p, vs, rfl, hS, hr⟩ := hh.seeL (K := X.K) rx sd.see
  exact ⟨p, vs, rfl, hS, fun a ha => hK _ _ G _ _ (q a) (Same.refl G) (hh.newOwn ha (.lst (cut_rep hr lo hi))) (.ref a)⟩
/-- xs[::-1] by value -/
def WRev (F : Fr) (d : D) (Γ : DL.Env) (Q : D → DL.Env → Prop) : Prop := ∃ ds, See Γ.M Γ.R d (.lst ds) ∧ ∀ p, Q (.ref p) ⟨Γ.sl, (p, .lst ds.reverse) :: Γ.M, Γ.R⟩
theorem wrev_go {d : D} {ds : List D} [sd : SeeL M R d ds] (q : ∀ p, Q (.ref p) ⟨sl, (p, .lst ds.reverse) :: M, R⟩) : WRev F d ⟨sl, M, R⟩ Q := ⟨ds, sd.see, q⟩
theorem wrev_goM {α : Type} {f : α → D} {d : D} {xs : List α} [sd : SeeL M R d (xs.map f)] (q : ∀ p, Q (.ref p) ⟨sl, (p, .lst (xs.reverse.map f)) :: M, R⟩) : WRev F d ⟨sl, M, R⟩ Q := ⟨xs.map f, sd.see, by rw [← List.map_reverse]; exact q⟩
theorem we_rev {e : Expr} {k : Nat} {p1 p2 p3 pos : Pos} (h : WE X F e Γ fun d Γ1 => WRev F d Γ1 Q) :
    WE X F (.Subscript e (.Slice none none (some (.UnaryOp .USub (.Constant (.int 1) k p1) p2)) p3) pos) Γ Q := fun G σ H hh R hR =>
  tU_of (pe_revL pe_U) (h G σ H hh _ fun d Γ1 G1 v H1 q s1 h1 r => by
    obtain ⟨ds, sd, q⟩ := q
    obtain ⟨p, vs, rfl, hS, hr⟩ := h1.seeL (K := X.K) r sd
    exact ⟨p, vs, rfl, hS, fun a ha => hR _ _ G1 _ _ (q a) s1 (h1.newOwn ha (.lst hr.reverse)) (.ref a)⟩)
theorem cutD_map {α : Type} {f : α → D} {xs : List α} {lo hi : Option Int} : cutD (xs.map f) lo hi = (cutD xs lo hi).map f := by
  unfold cutD
  rw [List.length_map, List.map_take, List.map_drop]
theorem wsl_listM {α : Type} {f : α → D} {d : D} {xs : List α} {lo hi : Option Int} [sd : SeeL M R d (xs.map f)] (q : ∀ p, Q (.ref p) ⟨sl, (p, .lst ((cutD xs lo hi).map f)) :: M, R⟩) : WSl X F d lo hi ⟨sl, M, R⟩ Q := wsl_list (ds := xs.map f) (by rw [cutD_map]; exact q)
theorem wo_catM {α : Type} {f : α → D} {d1 d2 : D} {xs ys : List α} [h1 : PlL M d1 (xs.map f)] [h2 : PlL M d2 (ys.map f)] (hz : xs.length + ys.length ≤ sizeLine) (q : ∀ p, Q (.ref p) ⟨sl, (p, .lst ((xs ++ ys).map f)) :: M, R⟩) : WO X F (binaryOp .Add) d1 d2 ⟨sl, M, R⟩ Q :=
  wo_cat (xs := xs.map f) (ys := ys.map f) (by rw [List.length_map, List.length_map]; exact hz) (by rw [← List.map_append]; exact q)
end
end DL

/-! The D layer, part 7: comprehensions; data that is compared. -/
namespace DL
open PySem PySem.Spec PyProof.Rows L2

/-! ### a comprehension's block -/
def IsBlk (X X' : Cx) (scope : Scope) : Prop := ∃ (s : Shared) (H : Hp) (C : Addr) (cl : List (Str × Addr)) (fp : List Addr), X' = X.blk s H scope (compEnvC scope cl C X.env) fp
section
variable {P : Program} {w : World} {K : PySem.W.Frag} {mg : Str → Option Value} {base : Heap} {k : Nat} {X X' : Cx} {scope : Scope}
theorem IsBlk.inn (b : IsBlk X X' scope) (h : In X P w K mg base k) : In X' P w K mg base k := by
  obtain ⟨s, H, C, cl, fp, rfl⟩ := b
  exact ⟨h.prog, h.w, h.K, h.mg, h.base, h.room, h.calm, h.nd, rfl⟩
theorem relabel_look {env : PySem.Env} : ∀ {names : List (Str × NameKind)} {x : Str} {k : NameKind}, names.lookup x = some k →
    (names.map fun (n, k) => if (k == .free && env.scope.kind == .function && env.kindOf n == some .cell) then (n, .cell) else (n, k)).lookup x = some k ∨ (k = .free ∧ (names.map fun (n, k) => if (k == .free && env.scope.kind == .function && env.kindOf n == some .cell) then (n, .cell) else (n, k)).lookup x = some .cell)
  | [], _, _, h => by simp at h
  | (n, k₀) :: r, x, k, h => by
    rw [List.lookup_cons] at h
    rw [List.map_cons]
    by_cases hx : x == n
    · simp only [hx] at h
      cases h
      by_cases hc : (k₀ == .free && env.scope.kind == .function && env.kindOf n == some .cell) = true
      · have hk : k₀ = .free := by
          have h1 := (Bool.and_eq_true_iff.mp (Bool.and_eq_true_iff.mp hc).1).1
          cases k₀ <;> first | rfl | (revert h1; decide)
        refine .inr ⟨hk, ?_⟩
        simp only [hc, if_true, List.lookup_cons, hx]
      · refine .inl ?_
        simp only [hc, List.lookup_cons, hx, if_false, Bool.false_eq_true]
    · have hx' : (x == n) = false := by simpa using hx
      simp only [hx'] at h
      have ih := relabel_look (env := env) h
      have e : ∀ c : Bool, List.lookup x ((if c = true then (n, NameKind.cell) else (n, k₀)) :: r.map fun (n, k) => if (k == .free && env.scope.kind == .function && env.kindOf n == some .cell) then (n, NameKind.cell) else (n, k)) = List.lookup x (r.map fun (n, k) => if (k == .free && env.scope.kind == .function && env.kindOf n == some .cell) then (n, NameKind.cell) else (n, k)) := by
        intro c
        cases c <;> simp [List.lookup_cons, hx']
      rw [e]
      exact ih
theorem IsBlk.name (b : IsBlk X X' scope) {i : Nat} {x : Str} (hN : X.N[i]? = some x) (hl : scope.names.lookup x = some .local ∨ scope.names.lookup x = some .cell ∨ scope.names.lookup x = some .free) (d1 : (x == ("__debug__" : Str)) = false) (d2 : (x == ("__classdict__" : Str)) = false) : NameAt X' i x := by
  obtain ⟨s, H, C, cl, fp, rfl⟩ := b
  refine ⟨hN, ?_, d1, d2⟩
  rcases hl with h | h | h
  · rcases relabel_look (env := X.env) h with h | ⟨z, _⟩
    · exact .inl h
    · cases z
  · rcases relabel_look (env := X.env) h with h | ⟨z, _⟩
    · exact .inr (.inl h)
    · cases z
  · rcases relabel_look (env := X.env) h with h | ⟨z, h⟩
    · exact .inr (.inr h)
    · exact .inr (.inl h)
theorem IsBlk.store (b : IsBlk X X' scope) {i : Nat} {x : Str} (hN : X.N[i]? = some x) (hl : scope.names.lookup x = some .local ∨ scope.names.lookup x = some .cell) : StoreAt X' i x := by
  obtain ⟨s, H, C, cl, fp, rfl⟩ := b
  rcases hl with h | h
  · rcases relabel_look (env := X.env) h with h' | ⟨z, _⟩
    · exact ⟨hN, .inl h', .inr h'⟩
    · cases z
  · rcases relabel_look (env := X.env) h with h' | ⟨z, _⟩
    · exact ⟨hN, .inr h', .inl (by show (scope.names.lookup x == some .cell) = true; rw [h]; rfl)⟩
    · cases z
theorem IsBlk.gl (b : IsBlk X X' scope) {x : Str} (hl : scope.names.lookup x = some .globalImplicit) : Gl X' x := by
  obtain ⟨s, H, C, cl, fp, rfl⟩ := b
  rcases relabel_look (env := X.env) hl with h | ⟨z, _⟩
  · exact h
  · cases z
theorem IsBlk.blt (b : IsBlk X X' scope) {x : Str} {v : Value} (hl : scope.names.lookup x = some .globalImplicit) (hm : X.mg x = none) (hv : bootBuiltins x = some v) (hn : x ≠ "__name__") (hdb : (x == ("__debug__" : Str)) = false) : BltAt X' x v := by
  have g := b.gl hl
  obtain ⟨s, H, C, cl, fp, rfl⟩ := b
  exact ⟨g, hm, hv, hn, hdb⟩
end

theorem wipe_get (σ : L2.St) : ∀ (vs : List Nat) (j : Nat), (wipe σ vs)[j]? = if j ∈ vs ∧ j < σ.length then some none else σ[j]?
  | [], j => by simp [wipe]
  | v :: vs, j => by
    unfold wipe
    by_cases e : v = j
    · subst e
      rw [List.getElem?_set]
      simp only [if_pos, wipe_length]
      by_cases h : v < σ.length
      · rw [if_pos h, if_pos ⟨List.mem_cons_self, h⟩]
      · rw [if_neg h, if_neg fun z => h z.2, List.getElem?_eq_none (by omega)]
    · rw [List.getElem?_set_ne e, wipe_get σ vs j]
      by_cases h : j ∈ vs ∧ j < σ.length
      · rw [if_pos h, if_pos ⟨List.mem_cons_of_mem _ h.1, h.2⟩]
      · rw [if_neg h, if_neg fun z => h ⟨(List.mem_cons.mp z.1).resolve_left fun q => e q.symm, z.2⟩]
theorem wipe_set {σ : L2.St} {vs : List Nat} {i : Nat} {x : Option V} (h : i ∈ vs) : wipe (σ.set i x) vs = wipe σ vs := by
  apply List.ext_getElem?
  intro j
  rw [wipe_get, wipe_get, List.length_set]
  by_cases e : j ∈ vs ∧ j < σ.length
  · rw [if_pos e, if_pos e]
  · rw [if_neg e, if_neg e]
    by_cases q : i = j
    · subst q
      have hl : ¬ i < σ.length := fun z => e ⟨h, z⟩
      rw [List.getElem?_eq_none (by rw [List.length_set]; omega), List.getElem?_eq_none (by omega)]
    · rw [List.getElem?_set_ne q]
theorem wipe_wipe {σ : L2.St} {vs : List Nat} : wipe (wipe σ vs) vs = wipe σ vs := by
  apply List.ext_getElem?
  intro j
  rw [wipe_get, wipe_get, wipe_length]
  by_cases e : j ∈ vs ∧ j < σ.length
  · rw [if_pos e, if_pos e]
  · rw [if_neg e, if_neg e]
def wipeD (sl : List (Option D)) : List Nat → List (Option D)
  | [] => sl
  | v :: vs => (wipeD sl vs).set v none
theorem wipeD_len (sl : List (Option D)) : ∀ vs, (wipeD sl vs).length = sl.length
  | [] => rfl
  | v :: vs => by unfold wipeD; rw [List.length_set, wipeD_len sl vs]
theorem wipeD_get {sl : List (Option D)} {d : D} : ∀ {vs : List Nat} {j : Nat}, (wipeD sl vs)[j]? = some (some d) → sl[j]? = some (some d) ∧ j ∉ vs
  | [], j, h => ⟨h, by simp⟩
  | v :: vs, j, h => by
    unfold wipeD at h
    by_cases e : v = j
    · subst e
      rw [List.getElem?_set] at h
      simp only [if_pos] at h
      split at h <;> cases h
    · rw [List.getElem?_set_ne e] at h
      obtain ⟨a, b⟩ := wipeD_get h
      exact ⟨a, fun z => (List.mem_cons.mp z).elim (fun q => e q.symm) b⟩
class WipeS (sl : List (Option D)) (vs : List Nat) (sl' : outParam (List (Option D))) : Prop where
  e : sl' = wipeD sl vs
instance WipeS.nil {sl : List (Option D)} : WipeS sl [] sl := ⟨rfl⟩
instance WipeS.cons {sl sl1 sl2 : List (Option D)} {v : Nat} {vs : List Nat} [h : WipeS sl vs sl1] [h2 : SetS sl1 v none sl2] : WipeS sl (v :: vs) sl2 := ⟨by rw [h2.e, h.e]; rfl⟩
section
variable {F : Fr} {G G' : Hp} {σ σ' : L2.St} {H H' : Hp} {sl sl' : List (Option D)} {M M' R : Mem}
/-- other slots -/
theorem Holds.slots (h : Holds F G ⟨sl, M, R⟩ σ H) (hl : σ'.length = sl'.length) (hs : ∀ (i : Nat) (d : D), sl'[i]? = some (some d) → ∃ v, σ'[i]? = some (some v) ∧ Rep G v d) : Holds F G ⟨sl', M, R⟩ σ' H :=
  ⟨h.g0, h.gh, h.bh, h.gb, h.nw, hl, hs, h.mem, h.rd⟩
theorem Holds.wiped (h : Holds F G ⟨sl, M, R⟩ σ H) (vs : List Nat) : Holds F G ⟨wipeD sl vs, M, R⟩ (wipe σ vs) H := by
  refine h.slots (by rw [wipe_length, wipeD_len]; exact h.len) fun i d e => ?_
  obtain ⟨a, b⟩ := wipeD_get e
  obtain ⟨v, c, r⟩ := h.sl i d a
  exact ⟨v, by rw [wipe_get, if_neg fun z => b z.1]; exact c, r⟩
end

/-- a clause's target: it stores at the block's own names alone -/
def WGC (X : Cx) (F : Fr) (tg : Expr) (d : D) (vs : List Nat) (Γ : DL.Env) (Q : DL.Env → Prop) : Prop := ∀ G σ H v, Holds F G Γ σ H → Rep G v d → ∀ R : L2.St → Hp → Prop, (∀ Γ' G' σ' H', Q Γ' → Same G G' → Holds F G' Γ' σ' H' → wipe σ' vs = wipe σ vs → R σ' H') → tUG X tg v σ H R
def WGCs (X : Cx) (F : Fr) (tg : List Expr) (ds : List D) (vs : List Nat) (Γ : DL.Env) (Q : DL.Env → Prop) : Prop := ∀ G σ H xs, Holds F G Γ σ H → Reps G xs ds → ∀ R : L2.St → Hp → Prop, (∀ Γ' G' σ' H', Q Γ' → Same G G' → Holds F G' Γ' σ' H' → wipe σ' vs = wipe σ vs → R σ' H') → tUGs X tg xs σ H R
def WTs (X : Cx) (F : Fr) (ifs : List Expr) (Γ : DL.Env) (Q : Bool → DL.Env → Prop) : Prop := ∀ G σ H, Holds F G Γ σ H → ∀ R : Bool → Hp → Prop, GoodB F Q G σ R → ∀ (pins : List (Addr × Obj)) (s : Shared), Inv X pins σ H s →
  wpAny (model X.prog X.w) X.A (forIn ifs true fun c r => if r = true then do let ok ← isTrue c X.env (eval c X.env); pure (ForInStep.yield ok) else pure (ForInStep.yield r)) (TP X pins σ R) X.xe s
section
variable {X : Cx} {F : Fr} {Γ : DL.Env} {Q : D → DL.Env → Prop} {sl sl' : List (Option D)} {M M' R : Mem} {vs : List Nat} {QG : DL.Env → Prop}
theorem wgc_name {i : Nat} {x : Str} {pos : Pos} {d : D} (hX : Std X) (n : StoreAt X i x) (hi : i ∈ vs) (q : Put i d Γ QG) : WGC X F (.Name x pos) d vs Γ QG := fun G σ H v hh r K hK =>
  tUG_of (pg_name hX.nd n.hN n.loc n.fn) (hK _ G _ H q (Same.refl G) (hh.setSl r i) (wipe_set hi))
theorem wgcs_nil (q : QG Γ) : WGCs X F [] [] vs Γ QG := fun G σ H xs hh r K hK => by
  rw [r.nil_inv]
  exact tUGs_of pgs_nil ⟨rfl, hK Γ G σ H q (Same.refl G) hh rfl⟩
theorem wgcs_cons {e : Expr} {es : List Expr} {d : D} {ds : List D} (hs : (assignEach (e :: es) X.env).map (·.2) = assign e X.env :: (assignEach es X.env).map (·.2)) (h : WGC X F e d vs Γ fun Γ1 => WGCs X F es ds vs Γ1 QG) : WGCs X F (e :: es) (d :: ds) vs Γ QG := fun G σ H xs hh r K hK => by
  obtain ⟨v, vr, rfl, ra, rb⟩ := r.cons_inv
  refine tUGs_of (pgs_cons pg_U pgs_U hs) ⟨v, vr, rfl, h G σ H v hh ra _ fun Γ' G' σ' H' q s h' e1 => q G' σ' H' vr h' (rb.mono s) K fun Γ2 G2 σ2 H2 q2 s2 h2 e2 => hK Γ2 G2 σ2 H2 q2 (s.trans s2) h2 (e2.trans e1)⟩
theorem wgc_tup {es : List Expr} {k : Nat} {pos : Pos} {d : D} {ds : List D} (hX : Std X) [s : SeeT M R d ds] (hn : (assignEach es X.env).length = ds.length) (hst : (assignEach es X.env).findIdx? (·.1) = none) (h : WGCs X F es ds vs ⟨sl, M, R⟩ QG) : WGC X F (.Tuple es k pos) d vs ⟨sl, M, R⟩ QG := fun G σ H v hh r K hK => by
  obtain ⟨p, xs, rfl, hS, hr⟩ := hh.seeT (K := X.K) r s.see
  exact tUG_of (pg_tup hX.calm pgs_U hn hst) ⟨p, xs, rfl, hS, hr.1, h G σ H xs hh hr K hK⟩
theorem wts_nil {Q : Bool → DL.Env → Prop} (q : Q true Γ) : WTs X F [] Γ Q := fun G σ H hh R hR pins s I => pts_nil.run pins s σ H R I (hR true Γ G H q (Same.refl G) hh)
theorem wts_one {c : Expr} {Q : Bool → DL.Env → Prop} (h : WT X F c Γ Q) : WTs X F [c] Γ Q := fun G σ H hh R hR pins s I => (pts_one pt_U).run pins s σ H R I (h G σ H hh R hR)

/-- what a comprehension is asked: the list grows at a; W by the turn, what is made so far, our own things -/
def LcPost (X : Cx) (F : Fr) (tg elt : Expr) (ifs : List Expr) (scope : Scope) (vs : List Nat) (sl : List (Option D)) (M R : Mem) (items : List D) (stand : DL.Env → Prop) (a : Addr) (Q : List D → Mem → Prop) : Prop :=
  ∃ W : Nat → List D → Mem → Prop, W 0 [] M ∧ (∀ i acc M', W i acc M' → stand ⟨wipeD sl vs, (a, .lst acc) :: M', R⟩) ∧
    (∀ (i : Nat) x acc M', items[i]? = some x → W i acc M' → ∀ X', IsBlk X X' scope → WGC X' F tg x vs ⟨wipeD sl vs, (a, .lst acc) :: M', R⟩ fun Γ2 => ∀ X', IsBlk X X' scope → WTs X' F ifs Γ2 fun b Γ3 =>
      (b = true → ∀ X', IsBlk X X' scope → WE X' F elt Γ3 fun y Γ4 => Fz F y Γ4 fun y Γ5 => ∃ s5 M5, Γ5 = ⟨s5, (a, .lst acc) :: M5, R⟩ ∧ acc.length < sizeLine ∧ W (i + 1) (acc ++ [y]) M5) ∧
      (b = false → ∃ s5 M5, Γ3 = ⟨s5, (a, .lst acc) :: M5, R⟩ ∧ W (i + 1) acc M5)) ∧
    ∀ acc M', W items.length acc M' → Q acc M'
def tgB (X : Cx) (tg : Expr) (scope : Scope) : TG := fun v σ H Q => ∀ (s : Shared) (H0 : Hp) (C : Addr) (cl : List (Str × Addr)) (fp : List Addr), tUG (X.blk s H0 scope (compEnvC scope cl C X.env) fp) tg v σ H Q
def ttB (X : Cx) (ifs : List Expr) (scope : Scope) : TT := fun σ H Q => ∀ (s : Shared) (H0 : Hp) (C : Addr) (cl : List (Str × Addr)) (fp : List Addr) (pins : List (Addr × Obj)) (s' : Shared), Inv (X.blk s H0 scope (compEnvC scope cl C X.env) fp) pins σ H s' →
  wpAny (model X.prog X.w) X.A (forIn ifs true fun c r => if r = true then do let ok ← isTrue c (compEnvC scope cl C X.env) (eval c (compEnvC scope cl C X.env)); pure (ForInStep.yield ok) else pure (ForInStep.yield r)) (TP (X.blk s H0 scope (compEnvC scope cl C X.env) fp) pins σ Q) (fun _ _ => False) s'
def teB (X : Cx) (elt : Expr) (scope : Scope) : TE := fun σ H Q => ∀ (s : Shared) (H0 : Hp) (C : Addr) (cl : List (Str × Addr)) (fp : List Addr), tU (X.blk s H0 scope (compEnvC scope cl C X.env) fp) elt σ H Q
theorem pg_B {tg : Expr} {scope : Scope} (s : Shared) (H0 : Hp) (C : Addr) (cl : List (Str × Addr)) (fp : List Addr) : PG (X.blk s H0 scope (compEnvC scope cl C X.env) fp) tg (tgB X tg scope) := ⟨fun pins s' σ H v u Q I r h => h s H0 C cl fp pins s' u I r⟩
theorem pts_B {ifs : List Expr} {scope : Scope} (s : Shared) (H0 : Hp) (C : Addr) (cl : List (Str × Addr)) (fp : List Addr) : PTs (X.blk s H0 scope (compEnvC scope cl C X.env) fp) ifs (ttB X ifs scope) := ⟨fun pins s' σ H Q I h => h s H0 C cl fp pins s' I⟩
theorem pe_B {elt : Expr} {scope : Scope} (s : Shared) (H0 : Hp) (C : Addr) (cl : List (Str × Addr)) (fp : List Addr) : PE (X.blk s H0 scope (compEnvC scope cl C X.env) fp) elt (teB X elt scope) := ⟨fun pins s' σ H Q I h => h s H0 C cl fp pins s' I⟩
theorem lc_sem {tg elt iter : Expr} {ifs : List Expr} {scope : Scope} {own : List (Str × Nat)}
    (h : WI X F tg iter Γ fun items stand Γ1 => ∀ a, LcPost X F tg elt ifs scope (own.map (·.2)) Γ1.sl Γ1.M Γ1.R items stand a fun acc M' => Q (.ref a) ⟨Γ1.sl, (a, .lst acc) :: M', Γ1.R⟩)
    {G : Hp} {σ : L2.St} {H : Hp} (hh : Holds F G Γ σ H) {K : VK} (hK : Good F Q G σ K) :
    tLc (tUI X tg iter) (tgB X tg scope) (ttB X ifs scope) (teB X elt scope) (own.map (·.2)) σ H K := by
  refine h G σ H hh _ fun items stand Γ1 G1 H1 J hp s1 h1 js => ?_
  intro a ha
  obtain ⟨W, w0, wst, turn, done⟩ := hp a
  have hb : Holds F G1 ⟨wipeD Γ1.sl (own.map (·.2)), (a, .lst []) :: Γ1.M, Γ1.R⟩ (wipe σ (own.map (·.2))) (upd H1 a (.lst [])) := (h1.newOwn (o := .lst []) ha (.lst Reps.nil)).wiped (own.map (·.2))
  refine ⟨fun i m H' => i + m = items.length ∧ ∃ acc M' G', Same G1 G' ∧ Holds F G' ⟨wipeD Γ1.sl (own.map (·.2)), (a, .lst acc) :: M', Γ1.R⟩ (wipe σ (own.map (·.2))) H' ∧ W i acc M', ⟨items.length, by omega, [], Γ1.M, G1, Same.refl _, hb, w0⟩, fun i m H' hW => ?_⟩
  obtain ⟨em, acc, M', G', sg, h', w⟩ := hW
  obtain ⟨stop, go⟩ := js _ G' _ H' sg h' (wst i acc M' w)
  by_cases hi : i < items.length
  · obtain ⟨g1, g2⟩ := go i items[i] (List.getElem?_eq_getElem hi)
    -- what the next turn is to find
    have next : ∀ {s5 : List (Option D)} {acc' : List D} {M5 : Mem} {G5 : Hp} {σ5 : L2.St} {H5 : Hp}, Same G1 G5 → Holds F G5 ⟨s5, (a, .lst acc') :: M5, Γ1.R⟩ σ5 H5 → W (i + 1) acc' M5 →
        i + 1 + (m - 1) = items.length ∧ ∃ acc M' G', Same G1 G' ∧ Holds F G' ⟨wipeD Γ1.sl (own.map (·.2)), (a, .lst acc) :: M', Γ1.R⟩ (wipe σ (own.map (·.2))) H5 ∧ W (i + 1) acc M' := fun {s5 acc' M5 G5 σ5 H5} s5' h5 w5 => by
      refine ⟨by omega, acc', M5, G5, s5', ?_, w5⟩
      refine h5.slots hb.len fun j d e => ?_
      obtain ⟨v, c, r⟩ := hb.sl j d e
      exact ⟨v, c, r.mono s5'⟩
    refine .inr ⟨g1, fun H'' => i + 1 + (m - 1) = items.length ∧ ∃ acc M' G', Same G1 G' ∧ Holds F G' ⟨wipeD Γ1.sl (own.map (·.2)), (a, .lst acc) :: M', Γ1.R⟩ (wipe σ (own.map (·.2))) H'' ∧ W (i + 1) acc M', fun H'' z => ⟨m - 1, by omega, z⟩, fun v H'' y => ?_⟩
    obtain ⟨G2, s2, h2, r2⟩ := g2 v H'' y
    intro sh H0 C cl fp
    refine turn i _ acc M' (List.getElem?_eq_getElem hi) w _ ⟨sh, H0, C, cl, fp, rfl⟩ G2 _ H'' v h2 r2 _ fun Γ2 G3 σ3 H3 q3 s3 h3 e3 => ?_
    refine ⟨by rw [e3, wipe_wipe], ?_⟩
    intro sh H0 C cl fp
    intro pins s' I
    refine q3 _ ⟨sh, H0, C, cl, fp, rfl⟩ G3 σ3 H3 h3 _ (fun b Γ4 G4 H4 q4 s4 h4 => ?_) pins s' I
    cases b with
    | false =>
      rw [if_neg Bool.false_ne_true]
      obtain ⟨s5, M5, rfl, w5⟩ := q4.2 rfl
      exact next (((sg.trans s2).trans s3).trans s4) h4 w5
    | true =>
      rw [if_pos rfl]
      intro sh H0 C cl fp
      refine we_fz (q4.1 rfl _ ⟨sh, H0, C, cl, fp, rfl⟩) G4 σ3 H4 h4 _ fun y Γ5 G5 vy H5 q5 s5 h5 r5 => ?_
      obtain ⟨sl5, M5, rfl, hl, w5⟩ := q5
      obtain ⟨_, _, o, ho, hs⟩ := h5.mem.at_ (a, .lst acc) List.mem_cons_self
      obtain ⟨vs5, rfl, hr⟩ := hs.lst_inv
      refine ⟨vs5, ho, by rw [hr.1]; exact hl, ?_⟩
      have hw := h5.write (k := 0) (c := .lst acc) (c' := .lst (acc ++ [y])) (o' := .lst (vs5 ++ [vy])) rfl (.lst (hr.append (Reps.cons r5 Reps.nil)))
      exact next ((((sg.trans s2).trans s3).trans s4).trans s5) hw w5
  · have ei : i = items.length := by omega
    subst ei
    refine .inl ⟨stop, hK _ _ G' _ _ (done acc M' w) (s1.trans sg) ?_ (.ref a)⟩
    refine h'.slots h1.len fun j d e => ?_
    obtain ⟨v, c, r⟩ := h1.sl j d e
    exact ⟨v, c, r.mono sg⟩
theorem we_lc {tg elt iter : Expr} {ifs : List Expr} {scope : Scope} {own : List (Str × Nat)} {pos : Pos} (hX : Std X) (ok : BlkOk X.N X.env.scope scope own) (hs : ∀ x, foldedSetIterable iter X.env x = pure x)
    (h : WI X F tg iter Γ fun items stand Γ1 => ∀ a, LcPost X F tg elt ifs scope (own.map (·.2)) Γ1.sl Γ1.M Γ1.R items stand a fun acc M' => Q (.ref a) ⟨Γ1.sl, (a, .lst acc) :: M', Γ1.R⟩) :
    WE X F (.ListComp elt [⟨tg, iter, ifs, 0⟩] scope pos) Γ Q := fun G σ H hh K hK => by
  refine tU_of (pe_lc hX.calm hX.nd pi_U ok pg_B pts_B pe_B hs) ?_
  exact lc_sem h hh hK
theorem ws_setLc {i : Nat} {y : Str} {py pos spos : Pos} {tg elt iter : Expr} {ifs : List Expr} {scope : Scope} {own : List (Str × Nat)} {O : Out} (hX : Std X) (hy : X.N[i]? = some y) (hyl : X.env.scope.names.lookup y = some .local)
    (hsw : swapsWith (.ListComp elt [⟨tg, iter, ifs, 0⟩] scope pos) (some (.Name y py)) spos.line X.env = pure true) (ok : BlkOk X.N X.env.scope scope own) (hs : ∀ x, foldedSetIterable iter X.env x = pure x)
    (h : WI X F tg iter Γ fun items stand Γ1 => ∀ a, LcPost X F tg elt ifs scope (own.map (·.2)) Γ1.sl Γ1.M Γ1.R items stand a fun acc M' => Put i (.ref a) ⟨Γ1.sl, (a, .lst acc) :: M', Γ1.R⟩ O.nx) :
    WS X F (.Assign [.Name y py] (.ListComp elt [⟨tg, iter, ifs, 0⟩] scope pos) spos) Γ O := fun G σ H hh E hE => by
  refine tUS_of (ps_setLc hX.calm hX.nd hy hyl hsw pi_U ok pg_B pts_B pe_B hs) ?_
  exact lc_sem (Q := fun d Γ1 => Put i d Γ1 O.nx) h hh fun d Γ1 G1 v H1 q s1 h1 r1 => hE.nx _ G1 _ H1 q s1 (h1.setSl r1 i)
end

/-! ### data that is compared -/
mutual
def D.py : D → PyData
  | .non => .none
  | .bl b => .bool b
  | .int i => .int i
  | .str x => .str x
  | .tup ds => .tuple (pys ds)
  | .lst ds => .list (pys ds)
  | _ => .none
def pys : List D → List PyData
  | [] => []
  | d :: ds => d.py :: pys ds
end
mutual
def D.pure : D → Bool
  | .non => true
  | .bl _ => true
  | .int _ => true
  | .str _ => true
  | .tup ds => pures ds
  | .lst ds => pures ds
  | _ => false
def pures : List D → Bool
  | [] => true
  | d :: ds => d.pure && pures ds
end
mutual
theorem dp_of {K : PySem.W.Frag} {G H : Hp} (e : Same G H) : ∀ (d : D) (v : V), Rep G v d → d.pure = true → Dp K H v d.py
  | .non, v, r, _ => by rw [r.non_inv]; exact .non
  | .bl b, v, r, _ => by rw [r.bl_inv]; exact .bl b
  | .int i, v, r, _ => by rw [r.int_inv]; exact .int i
  | .str x, v, r, _ => by rw [r.str_inv]; exact .str x
  | .tup ds, v, r, h => by
    obtain ⟨p, vs, rfl, e1, rr⟩ := r.tup_inv
    rw [D.py]
    exact .tup (.inl (.inl (e _ _ e1))) (dps_of e ds vs rr (by rw [D.pure] at h; exact h))
  | .lst ds, v, r, h => by
    obtain ⟨p, vs, rfl, e1, rr⟩ := r.lst_inv
    rw [D.py]
    exact .lst (.inl (.inl (e _ _ e1))) (dps_of e ds vs rr (by rw [D.pure] at h; exact h))
  | .ref _, v, r, h => by simp [D.pure] at h
  | .ty _, v, r, h => by simp [D.pure] at h
  | .dK _, v, r, h => by simp [D.pure] at h
  | .dT _, v, r, h => by simp [D.pure] at h
  | .st _, v, r, h => by simp [D.pure] at h
  | .ins _ _, v, r, h => by simp [D.pure] at h
theorem dps_of {K : PySem.W.Frag} {G H : Hp} (e : Same G H) : ∀ (ds : List D) (vs : List V), Reps G vs ds → pures ds = true → DpAll K H vs (pys ds)
  | [], vs, r, _ => by rw [r.nil_inv, pys]; exact .nil
  | d :: ds, vs, r, h => by
    obtain ⟨v, vr, rfl, a, b⟩ := r.cons_inv
    rw [pures, Bool.and_eq_true] at h
    rw [pys]
    exact .cons (dp_of e d v a h.1) (dps_of e ds vr b h.2)
end
/-- a value as it is compared -/
class SeeA (M R : Mem) (d : D) (c : outParam D) : Prop where
  see : See M R d c
instance (priority := 10) SeeA.self {M R : Mem} {d : D} : SeeA M R d d := ⟨.self _⟩
instance SeeA.rd {M R : Mem} {p : Addr} {c : D} {k : Nat} [h : At R p c k] : SeeA M R (.ref p) c := ⟨.rd (List.mem_of_getElem? h.e)⟩
instance SeeA.own {M R : Mem} {p : Addr} {c : D} {k : Nat} [h : At M p c k] : SeeA M R (.ref p) c := ⟨.own (List.mem_of_getElem? h.e)⟩
instance (priority := low) SeeA.wk {R : Mem} {d c : D} {q : Addr × D} [h : SeeA [] R d c] : SeeA [] (q :: R) d c := ⟨see_wk h.see⟩
instance (priority := low) SeeA.any' {M R : Mem} {d c : D} [h : SeeA [] R d c] : SeeA M R d c := ⟨h.see.any⟩
section
variable {X : Cx} {F : Fr} {Q : D → DL.Env → Prop} {sl : List (Option D)} {M R : Mem}
theorem Holds.seeDp {G : Hp} {σ : L2.St} {H : Hp} {Γ : DL.Env} (hh : Holds F G Γ σ H) {K : PySem.W.Frag} {d c : D} {v : V} (r : Rep G v d) (s : See Γ.M Γ.R d c) (h : c.pure = true) : Dp K H v c.py := by
  rcases hh.see r s with ⟨p, o, rfl, ho, hs⟩ | ⟨rfl, r⟩
  · cases hs with
    | lst rr =>
      rw [D.pure] at h; rw [D.py]
      exact .lst (.inl ho) (dps_of hh.gh _ _ rr h)
    | dK _ _ => simp [D.pure] at h
    | dT _ _ => simp [D.pure] at h
    | ins _ _ => simp [D.pure] at h
  · exact dp_of hh.gh _ _ r h
def okPy (c : D) : Prop := c.pure = true ∧ SeqAt.shaped c.py = true
theorem wo_eqD (hX : Std X) {d1 d2 c1 c2 : D} [s1 : SeeA M R d1 c1] [s2 : SeeA M R d2 c2] (h1 : okPy c1) (h2 : okPy c2) (q : Q (.bl (PyData.eqv c1.py c2.py)) ⟨sl, M, R⟩) : WO X F (compareOp .Eq) d1 d2 ⟨sl, M, R⟩ Q :=
  wo_of (op_eqD hX.hu) fun G σ H x y hh r1 r2 K hK => ⟨_, _, hh.seeDp r1 s1.see h1.1, hh.seeDp r2 s2.see h2.1, h1.2, h2.2, hK.here hh q (.bl _)⟩
theorem wo_neD (hX : Std X) {d1 d2 c1 c2 : D} [s1 : SeeA M R d1 c1] [s2 : SeeA M R d2 c2] (h1 : okPy c1) (h2 : okPy c2) (q : Q (.bl (!PyData.eqv c1.py c2.py)) ⟨sl, M, R⟩) : WO X F (compareOp .NotEq) d1 d2 ⟨sl, M, R⟩ Q :=
  wo_of (op_neD hX.hu) fun G σ H x y hh r1 r2 K hK => ⟨_, _, hh.seeDp r1 s1.see h1.1, hh.seeDp r2 s2.see h2.1, h1.2, h2.2, hK.here hh q (.bl _)⟩
end
end DL

/-! The D layer, part 8: names of a def's context; the defs of a text; branches. -/
namespace DL
open PySem PySem.Spec PyProof.Rows L2

section
variable {P : Program} {w : World} {K : PySem.W.Frag} {mg : Str → Option Value} {base : Heap} {k : Nat} {X : Cx} {N : List Str} {sc : Scope}
theorem Nm.name (n : Nm X N sc) {i : Nat} {x : Str} (hN : N[i]? = some x) (hl : sc.names.lookup x = some .local ∨ sc.names.lookup x = some .cell) (d1 : (x == ("__debug__" : Str)) = false) (d2 : (x == ("__classdict__" : Str)) = false) : NameAt X i x := by
  refine ⟨by rw [n.N]; exact hN, ?_, d1, d2⟩
  rw [n.sc]
  exact hl.elim .inl fun z => .inr (.inl z)
theorem Nm.store (n : Nm X N sc) {i : Nat} {x : Str} (hN : N[i]? = some x) (hl : sc.names.lookup x = some .local ∨ sc.names.lookup x = some .cell) : StoreAt X i x :=
  ⟨by rw [n.N]; exact hN, by rw [n.sc]; exact hl, .inl (by rw [n.fn])⟩
theorem Nm.gl (n : Nm X N sc) {x : Str} (hl : sc.names.lookup x = some .globalImplicit) : Gl X x := by
  show X.env.scope.names.lookup x = _
  rw [n.sc]; exact hl
theorem Nm.blt (n : Nm X N sc) (hX : In X P w K mg base k) {x : Str} {v : Value} (hl : sc.names.lookup x = some .globalImplicit) (hm : mg x = none) (hv : bootBuiltins x = some v) (hn : x ≠ "__name__") (hdb : (x == ("__debug__" : Str)) = false) : BltAt X x v :=
  ⟨n.gl hl, by rw [hX.mg]; exact hm, hv, hn, hdb⟩
theorem IsBlk.blt' {X' : Cx} {scope : Scope} (b : IsBlk X X' scope) (hX : In X P w K mg base k) {x : Str} {v : Value} (hl : scope.names.lookup x = some .globalImplicit) (hm : mg x = none) (hv : bootBuiltins x = some v) (hn : x ≠ "__name__") (hdb : (x == ("__debug__" : Str)) = false) : BltAt X' x v :=
  b.blt hl (by rw [hX.mg]; exact hm) hv hn hdb
theorem Nm.blk (n : Nm X N sc) {scope : Scope} {own : List (Str × Nat)} (h : blkC N sc scope own = true) : BlkOk X.N X.env.scope scope own := by
  rw [n.N, n.sc]; exact blkOk_by h
/-- a def of the text -/
def DefAt (K : PySem.W.Frag) (mg : Str → Option Value) (x : Str) (st : Stmt) : Prop := ∃ (f : Addr) (fd : FuncData), Fun K x x st f fd ∧ mg x = some (.ref f)
theorem calD {x : Str} {st : Stmt} {N ps : List Str} {k : Nat} {S : SpD} (Da : DefAt K mg x st) (Sc : FnScope N ps (defScope st)) (hb : ∀ f fd, Fun K x x st f fd → Binds K fd ps []) (len : ∀ ds M R Q, S ds M R Q → ds.length = ps.length)
    (hbody : ∀ (X : Cx) (F : Fr), In X P w K mg base k → Nm X N (defScope st) → ∀ ds M R Q, S ds M R Q → WSs X F (defBody st) ⟨startD N.length ds, M, R⟩ (outD Q)) : Cal P w K mg base (k + 1) x S := by
  obtain ⟨f, fd, Fu, hm⟩ := Da
  exact ⟨f, fd, ps, fnD Fu Sc len hbody, hm, Fu.kp, hb f fd Fu⟩
end

/-! ### isinstance -/
class Kit (t T : String) (b : outParam Bool) : Prop where
  h : kitB t T = some b
instance : Kit "NoneType" "int" false := ⟨by decide +kernel⟩
instance : Kit "NoneType" "bool" false := ⟨by decide +kernel⟩
instance : Kit "NoneType" "str" false := ⟨by decide +kernel⟩
instance : Kit "NoneType" "tuple" false := ⟨by decide +kernel⟩
instance : Kit "NoneType" "list" false := ⟨by decide +kernel⟩
instance : Kit "NoneType" "dict" false := ⟨by decide +kernel⟩
instance : Kit "int" "int" true := ⟨by decide +kernel⟩
instance : Kit "int" "bool" false := ⟨by decide +kernel⟩
instance : Kit "int" "str" false := ⟨by decide +kernel⟩
instance : Kit "int" "tuple" false := ⟨by decide +kernel⟩
instance : Kit "int" "list" false := ⟨by decide +kernel⟩
instance : Kit "int" "dict" false := ⟨by decide +kernel⟩
instance : Kit "str" "int" false := ⟨by decide +kernel⟩
instance : Kit "str" "bool" false := ⟨by decide +kernel⟩
instance : Kit "str" "str" true := ⟨by decide +kernel⟩
instance : Kit "str" "tuple" false := ⟨by decide +kernel⟩
instance : Kit "str" "list" false := ⟨by decide +kernel⟩
instance : Kit "str" "dict" false := ⟨by decide +kernel⟩
instance : Kit "bool" "int" true := ⟨by decide +kernel⟩
instance : Kit "bool" "bool" true := ⟨by decide +kernel⟩
instance : Kit "bool" "str" false := ⟨by decide +kernel⟩
instance : Kit "bool" "tuple" false := ⟨by decide +kernel⟩
instance : Kit "bool" "list" false := ⟨by decide +kernel⟩
instance : Kit "bool" "dict" false := ⟨by decide +kernel⟩
instance : Kit "list" "int" false := ⟨by decide +kernel⟩
instance : Kit "list" "bool" false := ⟨by decide +kernel⟩
instance : Kit "list" "str" false := ⟨by decide +kernel⟩
instance : Kit "list" "tuple" false := ⟨by decide +kernel⟩
instance : Kit "list" "list" true := ⟨by decide +kernel⟩
instance : Kit "list" "dict" false := ⟨by decide +kernel⟩
instance : Kit "tuple" "int" false := ⟨by decide +kernel⟩
instance : Kit "tuple" "bool" false := ⟨by decide +kernel⟩
instance : Kit "tuple" "str" false := ⟨by decide +kernel⟩
instance : Kit "tuple" "tuple" true := ⟨by decide +kernel⟩
instance : Kit "tuple" "list" false := ⟨by decide +kernel⟩
instance : Kit "tuple" "dict" false := ⟨by decide +kernel⟩
instance : Kit "dict" "int" false := ⟨by decide +kernel⟩
instance : Kit "dict" "bool" false := ⟨by decide +kernel⟩
instance : Kit "dict" "str" false := ⟨by decide +kernel⟩
instance : Kit "dict" "tuple" false := ⟨by decide +kernel⟩
instance : Kit "dict" "list" false := ⟨by decide +kernel⟩
instance : Kit "dict" "dict" true := ⟨by decide +kernel⟩
theorem wc_isK {X : Cx} {F : Fr} {Q : D → DL.Env → Prop} {sl : List (Option D)} {M R : Mem} {d : D} {t T : String} {b : Bool} [h : TyD M R d t] [k : Kit t T b] (q : Q (.bl b) ⟨sl, M, R⟩) : WC X F (.builtin "isinstance") [d, .ty T] ⟨sl, M, R⟩ Q := wc_isi k.h q

/-! ### comprehensions -/
def LcEnd (F : Fr) (a : Addr) (acc : List D) (R : Mem) (W : List D → Mem → Prop) (y : D) (Γ : DL.Env) : Prop := Fz F y Γ fun y Γ5 => ∃ s5 M5, Γ5 = ⟨s5, (a, .lst acc) :: M5, R⟩ ∧ acc.length < sizeLine ∧ W (acc ++ [y]) M5
def LcAt (X : Cx) (F : Fr) (tg elt : Expr) (ifs : List Expr) (scope : Scope) (vs : List Nat) (items : List D) (stand : DL.Env → Prop) (Γ : DL.Env) (Q : D → DL.Env → Prop) : Prop :=
  ∀ a, LcPost X F tg elt ifs scope vs Γ.sl Γ.M Γ.R items stand a fun acc M' => Q (.ref a) ⟨Γ.sl, (a, .lst acc) :: M', Γ.R⟩
theorem lcend_id {F : Fr} {a : Addr} {acc : List D} {R M5 : Mem} {s5 : List (Option D)} {W : List D → Mem → Prop} {y : D} (hl : acc.length < sizeLine) (hw : W (acc ++ [y]) M5) : LcEnd F a acc R W y ⟨s5, (a, .lst acc) :: M5, R⟩ := fz_id ⟨_, _, rfl, hl, hw⟩
theorem lcend_lst {F : Fr} {a p : Addr} {acc ds : List D} {R M M5 : Mem} {k : Nat} {s5 s6 : List (Option D)} {W : List D → Mem → Prop} [h : At M p (.lst ds) k] [h2 : DelM M k ((a, .lst acc) :: M5)] [h3 : FzS s5 p (.lst ds) s6] (hl : acc.length < sizeLine) (hw : W (acc ++ [.lst ds]) M5) : LcEnd F a acc R W (.ref p) ⟨s5, M, R⟩ := fz_lst ⟨_, _, rfl, hl, hw⟩
section
variable {P : Program} {w : World} {K : PySem.W.Frag} {mg : Str → Option Value} {base : Heap} {k : Nat} {X : Cx} {F : Fr} {Γ : DL.Env} {Q : D → DL.Env → Prop} {sl slw : List (Option D)} {M R : Mem} {elt c : Expr} {scope : Scope} {items : List D} {stand : DL.Env → Prop}
/-- [e for x in ..] -/
theorem lc_name {i : Nat} {x : Str} {pos : Pos} (hX : In X P w K mg base k) (hN : X.N[i]? = some x) (hl : scope.names.lookup x = some .local ∨ scope.names.lookup x = some .cell) [h : WipeS sl [i] slw]
    (W : Nat → List D → Mem → Prop) (w0 : W 0 [] M) (hst : ∀ a j acc M', W j acc M' → stand ⟨slw, (a, .lst acc) :: M', R⟩)
    (turn : ∀ a (j : Nat) d acc M', items[j]? = some d → W j acc M' → Put i d ⟨slw, (a, .lst acc) :: M', R⟩ fun Γ2 => ∀ X', IsBlk X X' scope → WE X' F elt Γ2 (LcEnd F a acc R (W (j + 1))))
    (done : ∀ a acc M', W items.length acc M' → Q (.ref a) ⟨sl, (a, .lst acc) :: M', R⟩) : LcAt X F (.Name x pos) elt [] scope [i] items stand ⟨sl, M, R⟩ Q := fun a => by
  refine ⟨W, w0, fun j acc M' hw => ?_, fun j d acc M' hd hw X' hb => ?_, done a⟩
  · rw [← h.e]; exact hst a j acc M' hw
  · rw [← h.e]
    have hX' := (hb.inn hX).std
    refine wgc_name hX' (hb.store hN hl) List.mem_cons_self ?_
    intro X2 hb2
    refine wts_nil ⟨fun _ X3 hb3 => ?_, fun z => Bool.noConfusion z⟩
    exact turn a j d acc M' hd hw X3 hb3
/-- [e for x in .. if c] -/
theorem lc_name1 {i : Nat} {x : Str} {pos : Pos} (hX : In X P w K mg base k) (hN : X.N[i]? = some x) (hl : scope.names.lookup x = some .local ∨ scope.names.lookup x = some .cell) [h : WipeS sl [i] slw]
    (W : Nat → List D → Mem → Prop) (w0 : W 0 [] M) (hst : ∀ a j acc M', W j acc M' → stand ⟨slw, (a, .lst acc) :: M', R⟩)
    (turn : ∀ a (j : Nat) d acc M', items[j]? = some d → W j acc M' → Put i d ⟨slw, (a, .lst acc) :: M', R⟩ fun Γ2 => ∀ X', IsBlk X X' scope → WT X' F c Γ2 fun b Γ3 => (b = true → ∀ X', IsBlk X X' scope → WE X' F elt Γ3 (LcEnd F a acc R (W (j + 1)))) ∧ (b = false → ∃ s5 M5, Γ3 = ⟨s5, (a, .lst acc) :: M5, R⟩ ∧ W (j + 1) acc M5))
    (done : ∀ a acc M', W items.length acc M' → Q (.ref a) ⟨sl, (a, .lst acc) :: M', R⟩) : LcAt X F (.Name x pos) elt [c] scope [i] items stand ⟨sl, M, R⟩ Q := fun a => by
  refine ⟨W, w0, fun j acc M' hw => ?_, fun j d acc M' hd hw X' hb => ?_, done a⟩
  · rw [← h.e]; exact hst a j acc M' hw
  · rw [← h.e]
    have hX' := (hb.inn hX).std
    refine wgc_name hX' (hb.store hN hl) List.mem_cons_self ?_
    intro X2 hb2
    exact wts_one (turn a j d acc M' hd hw X2 hb2)
/-- [e for x, y in ..] -/
theorem lc_two {i i2 kt : Nat} {x x2 : Str} {pos p1 p2 : Pos} (hX : In X P w K mg base k) (hN : X.N[i]? = some x) (hl : scope.names.lookup x = some .local ∨ scope.names.lookup x = some .cell) (hN2 : X.N[i2]? = some x2) (hl2 : scope.names.lookup x2 = some .local ∨ scope.names.lookup x2 = some .cell) [h : WipeS sl [i, i2] slw]
    (W : Nat → List D → Mem → Prop) (w0 : W 0 [] M) (hst : ∀ a j acc M', W j acc M' → stand ⟨slw, (a, .lst acc) :: M', R⟩)
    (turn : ∀ a (j : Nat) d acc M', items[j]? = some d → W j acc M' → ∃ d1 d2, d = .tup [d1, d2] ∧ Put i d1 ⟨slw, (a, .lst acc) :: M', R⟩ fun Γ1 => Put i2 d2 Γ1 fun Γ2 => ∀ X', IsBlk X X' scope → WE X' F elt Γ2 (LcEnd F a acc R (W (j + 1))))
    (done : ∀ a acc M', W items.length acc M' → Q (.ref a) ⟨sl, (a, .lst acc) :: M', R⟩) : LcAt X F (.Tuple [.Name x p1, .Name x2 p2] kt pos) elt [] scope [i, i2] items stand ⟨sl, M, R⟩ Q := fun a => by
  refine ⟨W, w0, fun j acc M' hw => ?_, fun j d acc M' hd hw X' hb => ?_, done a⟩
  · rw [← h.e]; exact hst a j acc M' hw
  · rw [← h.e]
    have hX' := (hb.inn hX).std
    obtain ⟨d1, d2, rfl, ht⟩ := turn a j d acc M' hd hw
    refine wgc_tup hX' rfl rfl ?_
    refine wgcs_cons rfl (wgc_name hX' (hb.store hN hl) List.mem_cons_self ?_)
    refine wgcs_cons rfl (wgc_name hX' (hb.store hN2 hl2) (List.mem_cons_of_mem _ List.mem_cons_self) ?_)
    refine wgcs_nil ?_
    intro X2 hb2
    refine wts_nil ⟨fun _ X3 hb3 => ?_, fun z => Bool.noConfusion z⟩
    exact ht X3 hb3
theorem lc_two1 {i i2 kt : Nat} {x x2 : Str} {pos p1 p2 : Pos} (hX : In X P w K mg base k) (hN : X.N[i]? = some x) (hl : scope.names.lookup x = some .local ∨ scope.names.lookup x = some .cell) (hN2 : X.N[i2]? = some x2) (hl2 : scope.names.lookup x2 = some .local ∨ scope.names.lookup x2 = some .cell) [h : WipeS sl [i, i2] slw]
    (W : Nat → List D → Mem → Prop) (w0 : W 0 [] M) (hst : ∀ a j acc M', W j acc M' → stand ⟨slw, (a, .lst acc) :: M', R⟩)
    (turn : ∀ a (j : Nat) d acc M', items[j]? = some d → W j acc M' → ∃ d1 d2, d = .tup [d1, d2] ∧ Put i d1 ⟨slw, (a, .lst acc) :: M', R⟩ fun Γ1 => Put i2 d2 Γ1 fun Γ2 => ∀ X', IsBlk X X' scope → WT X' F c Γ2 fun b Γ3 => (b = true → ∀ X', IsBlk X X' scope → WE X' F elt Γ3 (LcEnd F a acc R (W (j + 1)))) ∧ (b = false → ∃ s5 M5, Γ3 = ⟨s5, (a, .lst acc) :: M5, R⟩ ∧ W (j + 1) acc M5))
    (done : ∀ a acc M', W items.length acc M' → Q (.ref a) ⟨sl, (a, .lst acc) :: M', R⟩) : LcAt X F (.Tuple [.Name x p1, .Name x2 p2] kt pos) elt [c] scope [i, i2] items stand ⟨sl, M, R⟩ Q := fun a => by
  refine ⟨W, w0, fun j acc M' hw => ?_, fun j d acc M' hd hw X' hb => ?_, done a⟩
  · rw [← h.e]; exact hst a j acc M' hw
  · rw [← h.e]
    have hX' := (hb.inn hX).std
    obtain ⟨d1, d2, rfl, ht⟩ := turn a j d acc M' hd hw
    refine wgc_tup hX' rfl rfl ?_
    refine wgcs_cons rfl (wgc_name hX' (hb.store hN hl) List.mem_cons_self ?_)
    refine wgcs_cons rfl (wgc_name hX' (hb.store hN2 hl2) (List.mem_cons_of_mem _ List.mem_cons_self) ?_)
    refine wgcs_nil ?_
    intro X2 hb2
    exact wts_one (ht X2 hb2)
theorem we_lc' {tg iter : Expr} {ifs : List Expr} {own : List (Str × Nat)} {vs : List Nat} {pos : Pos} (hX : Std X) (ok : BlkOk X.N X.env.scope scope own) (hs : ∀ x, foldedSetIterable iter X.env x = pure x) (hv : own.map (·.2) = vs)
    (h : WI X F tg iter Γ fun items stand Γ1 => LcAt X F tg elt ifs scope vs items stand Γ1 Q) : WE X F (.ListComp elt [⟨tg, iter, ifs, 0⟩] scope pos) Γ Q := we_lc hX ok hs (by rw [hv]; exact h)
theorem ws_setLc' {i : Nat} {y : Str} {py pos spos : Pos} {tg iter : Expr} {ifs : List Expr} {own : List (Str × Nat)} {vs : List Nat} {O : Out} (hX : Std X) (hy : X.N[i]? = some y) (hyl : X.env.scope.names.lookup y = some .local)
    (hsw : swapsWith (.ListComp elt [⟨tg, iter, ifs, 0⟩] scope pos) (some (.Name y py)) spos.line X.env = pure true) (ok : BlkOk X.N X.env.scope scope own) (hs : ∀ x, foldedSetIterable iter X.env x = pure x) (hv : own.map (·.2) = vs)
    (h : WI X F tg iter Γ fun items stand Γ1 => LcAt X F tg elt ifs scope vs items stand Γ1 fun d Γ2 => Put i d Γ2 O.nx) :
    WS X F (.Assign [.Name y py] (.ListComp elt [⟨tg, iter, ifs, 0⟩] scope pos) spos) Γ O := ws_setLc hX hy hyl hsw ok hs (by rw [hv]; exact h)
end

/-! ### branches -/
section
variable {A B : Prop} {p : Prop} [Decidable p] {c : Bool}
theorem br_true (h : A) : (true = true → A) ∧ (true = false → B) := ⟨fun _ => h, fun z => Bool.noConfusion z⟩
theorem br_false (h : B) : (false = true → A) ∧ (false = false → B) := ⟨fun z => Bool.noConfusion z, fun _ => h⟩
theorem br_dec (h1 : p → A) (h2 : ¬ p → B) : (decide p = true → A) ∧ (decide p = false → B) := ⟨fun z => h1 (of_decide_eq_true z), fun z => h2 (of_decide_eq_false z)⟩
theorem br_ndec (h1 : ¬ p → A) (h2 : p → B) : ((!decide p) = true → A) ∧ ((!decide p) = false → B) := by
  refine ⟨fun z => h1 ?_, fun z => h2 ?_⟩
  · simpa using z
  · simpa using z
theorem br_nndec (h1 : p → A) (h2 : ¬ p → B) : ((!(!decide p)) = true → A) ∧ ((!(!decide p)) = false → B) := by
  rw [Bool.not_not]; exact br_dec h1 h2
theorem br_is (e : c = true) (h : A) : (c = true → A) ∧ (c = false → B) := ⟨fun _ => h, fun z => by rw [e] at z; cases z⟩
theorem br_isnot (e : c = false) (h : B) : (c = true → A) ∧ (c = false → B) := ⟨fun z => (by rw [e] at z; cases z), fun _ => h⟩
/-- the other order: or -/
theorem rb_true (h : B) : (true = false → A) ∧ (true = true → B) := ⟨fun z => Bool.noConfusion z, fun _ => h⟩
theorem rb_false (h : A) : (false = false → A) ∧ (false = true → B) := ⟨fun _ => h, fun z => Bool.noConfusion z⟩
theorem rb_dec (h1 : ¬ p → A) (h2 : p → B) : (decide p = false → A) ∧ (decide p = true → B) := ⟨fun z => h1 (of_decide_eq_false z), fun z => h2 (of_decide_eq_true z)⟩
theorem rb_ndec (h1 : p → A) (h2 : ¬ p → B) : ((!decide p) = false → A) ∧ ((!decide p) = true → B) := by
  refine ⟨fun z => h1 ?_, fun z => h2 ?_⟩
  · simpa using z
  · simpa using z
theorem rb_isnot (e : c = false) (h : A) : (c = false → A) ∧ (c = true → B) := ⟨fun _ => h, fun z => by rw [e] at z; cases z⟩
theorem rb_is (e : c = true) (h : B) : (c = false → A) ∧ (c = true → B) := ⟨fun z => (by rw [e] at z; cases z), fun _ => h⟩
end
/-- the end of a def: what comes back -/
theorem out_rt {P : D → Mem → Prop} {d : D} {Γ : DL.Env} (M' : Mem) (nd : (M'.map (·.1)).Nodup) (hs : Sub M' Γ.M) (h : P d M') : (outD P).rt d Γ := ⟨M', nd, hs, h⟩
theorem rt0 {P : D → Mem → Prop} {d : D} {sl : List (Option D)} {M R : Mem} (h : P d []) : ∃ M', (M'.map (·.1)).Nodup ∧ Sub M' (⟨sl, M, R⟩ : DL.Env).M ∧ P d M' := ⟨[], List.nodup_nil, (fun _ z => nomatch z), h⟩
theorem rt1 {P : D → Mem → Prop} {d c : D} {p : Addr} {sl : List (Option D)} {M R : Mem} {k : Nat} [e : At M p c k] (h : P d [(p, c)]) : ∃ M', (M'.map (·.1)).Nodup ∧ Sub M' (⟨sl, M, R⟩ : DL.Env).M ∧ P d M' :=
  ⟨[(p, c)], by simp, fun q hq => by
    have : q = (p, c) := by simpa using hq
    subst this
    exact List.mem_of_getElem? e.e, h⟩
theorem rtR {P : D → Mem → Prop} {c : D} {p : Addr} {sl : List (Option D)} {M R : Mem} {k : Nat} [e : At M p c k] (h : P (.ref p) [(p, c)]) : ∃ M', (M'.map (·.1)).Nodup ∧ Sub M' (⟨sl, M, R⟩ : DL.Env).M ∧ P (.ref p) M' := rt1 h
/-- two places; they differ where the memory has no place twice -/
theorem out_same {P : D → Mem → Prop} {d : D} {sl : List (Option D)} {M R : Mem} (nd : (M.map (·.1)).Nodup) (h : P d M) : ∃ M', (M'.map (·.1)).Nodup ∧ Sub M' (⟨sl, M, R⟩ : DL.Env).M ∧ P d M' := ⟨M, nd, fun _ z => z, h⟩
/-- what holds in every state may be used -/
theorem wss_nd {X : Cx} {F : Fr} {sts : List Stmt} {sl : List (Option D)} {M R : Mem} {O : Out} (h : (M.map (·.1)).Nodup → WSs X F sts ⟨sl, M, R⟩ O) : WSs X F sts ⟨sl, M, R⟩ O := fun G σ H hh E hE => h hh.mem.nd G σ H hh E hE
theorem log_small {j : Int} (h0 : 0 < j) (h : j < 2 ^ 200) : j.natAbs.log2 < 9000 := by
  have e : j.natAbs < 2 ^ 200 := by omega
  exact Nat.lt_trans (PySem.Flt.log2_lt_of (by decide) e) (by decide)
theorem atI_in {α : Type} {xs : List α} {i : Int} (h0 : 0 ≤ i) (h1 : i < xs.length) : ∃ x, atI xs i = some x ∧ xs[i.toNat]? = some x := by
  obtain ⟨n, rfl⟩ := Int.eq_ofNat_of_zero_le h0
  have hi : n < xs.length := by omega
  exact ⟨xs[n], atI_nat (List.getElem?_eq_getElem hi), List.getElem?_eq_getElem hi⟩
section
variable {X : Cx} {F : Fr} {Γ : DL.Env} {Q : D → DL.Env → Prop} {sl sl' : List (Option D)} {M M' R : Mem} {ea eb : Expr}
/-- an item of a list that is told by a function -/
theorem wx_map {α : Type} {f : α → D} {d : D} {xs : List α} {i : Int} [sd : SeeL M R d (xs.map f)] (h0 : 0 ≤ i) (h1 : i < xs.length) (q : ∀ y, xs[i.toNat]? = some y → Q (f y) ⟨sl, M, R⟩) : WX X F ea eb d (.int i) ⟨sl, M, R⟩ Q := by
  obtain ⟨x, e1, e2⟩ := atI_in (xs := xs.map f) h0 (by rw [List.length_map]; exact h1)
  rw [List.getElem?_map] at e2
  obtain ⟨y, e3, rfl⟩ := Option.map_eq_some_iff.mp e2
  exact wx_list e1 (q y e3)
theorem wc_lenM {α : Type} {f : α → D} {d : D} {xs : List α} [sd : SeeQ M R d (xs.map f)] (q : Q (.int (xs.length : Int)) ⟨sl, M, R⟩) : WC X F (.builtin "len") [d] ⟨sl, M, R⟩ Q :=
  wc_len (ds := xs.map f) (by rw [List.length_map]; exact q)
theorem atI_mapI {α : Type} {f : α → D} {xs : List α} {i : Int} {y : α} (h : atI xs i = some y) : atI (xs.map f) i = some (f y) := by
  unfold atI at h ⊢
  rw [List.length_map]
  cases e : ixN xs.length i with
  | none => rw [e] at h; cases h
  | some j =>
    rw [e] at h
    show (xs.map f)[j]? = _
    rw [List.getElem?_map, show xs[j]? = some y from h]; rfl
theorem wx_mapN {α : Type} {f : α → D} {d : D} {xs : List α} {i : Int} {y : α} [sd : SeeL M R d (xs.map f)] (h : atI xs i = some y) (q : Q (f y) ⟨sl, M, R⟩) : WX X F ea eb d (.int i) ⟨sl, M, R⟩ Q := wx_list (atI_mapI h) q
theorem atI_last2 {α : Type} (xs : List α) (v w : α) : atI (xs ++ [v, w]) (-2) = some v := by
  unfold atI ixN
  have h : ((xs ++ [v, w]).length : Int) = xs.length + 2 := by simp
  rw [if_neg (by decide), if_pos (by omega)]
  show (xs ++ [v, w])[((-2 : Int) + ((xs ++ [v, w]).length : Int)).toNat]? = _
  rw [h, show ((-2 : Int) + ((xs.length : Int) + 2)).toNat = xs.length by omega]
  simp
theorem wm_popM {α : Type} {f : α → D} {p : Addr} {ys zs : List α} {z : α} {k : Nat} [h : At M p (.lst (ys.map f)) k] [h2 : SetM M k (p, .lst (zs.map f)) M'] (e : ys = zs ++ [z]) (q : Q (f z) ⟨sl, M', R⟩) : WM X F "list.pop" (.ref p) [] ⟨sl, M, R⟩ Q := by
  have h' : At M p (.lst (zs.map f ++ [f z])) k := ⟨by rw [h.e, e, List.map_append]; rfl⟩
  exact wm_pop q
theorem cut_m1 {α : Type} (l : List α) (x : α) : cutD (l ++ [x]) none (some (-1)) = l := by
  unfold cutD
  have e : HT.sIx (l ++ [x]).length (l ++ [x]).length (some (-1)) = l.length := by
    have h : ((l ++ [x]).length : Int) = l.length + 1 := by simp
    unfold HT.sIx
    rw [h]
    simp only [if_pos (show (-1 : Int) < 0 by decide)]
    omega
  rw [e, HT.sIx_none]
  simp
theorem sIx_pos {n d : Nat} {i : Int} (h : 0 ≤ i) : HT.sIx n d (some i) = min i.toNat n := by
  unfold HT.sIx
  simp only [if_neg (show ¬ i < 0 by omega)]
theorem cut_to {α : Type} (l : List α) {i : Int} (h : 0 ≤ i) : cutD l none (some i) = l.take i.toNat := by
  unfold cutD
  rw [sIx_pos h, HT.sIx_none, List.drop_zero, Nat.sub_zero, ← List.take_eq_take_min]
theorem cut_from {α : Type} (l : List α) {i : Int} (h : 0 ≤ i) : cutD l (some i) none = l.drop i.toNat := by
  unfold cutD
  rw [sIx_pos h, HT.sIx_none, List.take_of_length_le (by rw [List.length_drop]; exact Nat.le_refl _)]
  by_cases hl : i.toNat ≤ l.length
  · rw [Nat.min_eq_left hl]
  · rw [Nat.min_eq_right (by omega), List.drop_of_length_le (Nat.le_refl _), List.drop_of_length_le (by omega)]
theorem cut_mid {α : Type} (l : List α) {i j : Int} (h : 0 ≤ i) (h2 : 0 ≤ j) : cutD l (some i) (some j) = (l.drop i.toNat).take (j.toNat - i.toNat) := by
  unfold cutD
  rw [sIx_pos h, sIx_pos h2]
  by_cases hi : i.toNat ≤ l.length
  · rw [Nat.min_eq_left hi]
    by_cases hj : j.toNat ≤ l.length
    · rw [Nat.min_eq_left hj]
    · rw [Nat.min_eq_right (by omega), List.take_of_length_le (by rw [List.length_drop]; exact Nat.le_refl _), List.take_of_length_le (by rw [List.length_drop]; omega)]
  · rw [Nat.min_eq_right (show l.length ≤ i.toNat by omega), List.drop_of_length_le (Nat.le_refl _), List.drop_of_length_le (show l.length ≤ i.toNat by omega)]; simp
/-- a word behind a statement -/
theorem ws_mid {st : Stmt} {O : Out} (Mid : DL.Env → Prop) (h : WS X F st Γ { O with nx := Mid }) (h2 : ∀ Γ1, Mid Γ1 → O.nx Γ1) : WS X F st Γ O := ws_mono h h2 (fun _ _ z => z) (fun _ z => z) fun _ z => z
/-- an item of a sequence -/
theorem wx_seq {d : D} {ds : List D} {i : Int} [sd : SeeQ M R d ds] (h0 : 0 ≤ i) (h1 : i < ds.length) (q : ∀ y, ds[i.toNat]? = some y → Q y ⟨sl, M, R⟩) : WX X F ea eb d (.int i) ⟨sl, M, R⟩ Q := by
  obtain ⟨x, e1, e2⟩ := atI_in h0 h1
  rcases sd.see with s | s
  · have : SeeL M R d ds := ⟨s⟩
    exact wx_list e1 (q x e2)
  · have : SeeT M R d ds := ⟨s⟩
    exact wx_tup e1 (q x e2)
instance (priority := low) SeeQ.any' {d : D} {ds : List D} [h : SeeQ [] R d ds] : SeeQ M R d ds := ⟨h.see.elim (fun z => .inl z.any) fun z => .inr z.any⟩
instance (priority := low) SeeQ.wk {q : Addr × D} {d : D} {ds : List D} [h : SeeQ [] R d ds] : SeeQ [] (q :: R) d ds := ⟨h.see.elim (fun z => .inl (see_wk z)) fun z => .inr (see_wk z)⟩
/-- data as the laws compare them: none, ints, texts, tuples and lists of such, to a depth -/
def Isd : Nat → D → Prop
  | _, .non => True
  | _, .int _ => True
  | _, .str _ => True
  | n + 1, .tup ds => ds.length ≤ 16777216 ∧ ∀ d ∈ ds, Isd n d
  | n + 1, .lst ds => ds.length ≤ 16777216 ∧ ∀ d ∈ ds, Isd n d
  | _, _ => False
/-- what a value is: itself, or a list at its place -/
inductive Sh (R : Mem) : D → D → Prop where
  | self (c : D) : Sh R c c
  | lst {d : D} {ds : List D} (h : SeeL [] R d ds) : Sh R d (.lst ds)
theorem wc_allM (hX : Std X) {d : D} {bs : List Bool} [sd : SeeL M R d (bs.map D.bl)] (q : Q (.bl (bs.all id)) ⟨sl, M, R⟩) : WC X F (.builtin "all") [d] ⟨sl, M, R⟩ Q := wc_all hX bs rfl q
theorem wc_anyM (hX : Std X) {d : D} {bs : List Bool} [sd : SeeL M R d (bs.map D.bl)] (q : Q (.bl (bs.any id)) ⟨sl, M, R⟩) : WC X F (.builtin "any") [d] ⟨sl, M, R⟩ Q := wc_any hX bs rfl q
theorem all_rep (n : Nat) : (List.replicate n true).all id = true := by
  induction n with
  | zero => rfl
  | succ n ih => rw [List.replicate_succ, List.all_cons, ih]; rfl
end
end DL

/-! The D layer, part 9: forgetting; the law's own head. -/
namespace DL
open PySem PySem.Spec PyProof.Rows L2
/-! ### forgetting slots and places -/
inductive WkS : List (Option D) → List (Option D) → Prop where
  | nil : WkS [] []
  | keep {x : Option D} {a b : List (Option D)} : WkS a b → WkS (x :: a) (x :: b)
  | drop {x : Option D} {a b : List (Option D)} : WkS a b → WkS (x :: a) (none :: b)
theorem WkS.refl : ∀ a : List (Option D), WkS a a
  | [] => .nil
  | _ :: a => .keep (WkS.refl a)
theorem WkS.len {a b : List (Option D)} (h : WkS a b) : a.length = b.length := by
  induction h with
  | nil => rfl
  | keep _ ih => rw [List.length_cons, List.length_cons, ih]
  | drop _ ih => rw [List.length_cons, List.length_cons, ih]
theorem WkS.get {a b : List (Option D)} (h : WkS a b) : ∀ (i : Nat) (d : D), b[i]? = some (some d) → a[i]? = some (some d) := by
  induction h with
  | nil => exact fun _ _ z => z
  | keep _ ih =>
    intro i d z
    cases i with
    | zero => exact z
    | succ i => exact ih i d z
  | drop _ ih =>
    intro i d z
    cases i with
    | zero => cases z
    | succ i => exact ih i d z
structure Wk (Γ Γ' : DL.Env) : Prop where
  sl : WkS Γ.sl Γ'.sl
  M : Γ'.M.Sublist Γ.M
  R : Γ'.R = Γ.R
theorem Wk.refl (Γ : DL.Env) : Wk Γ Γ := ⟨.refl _, .refl _, rfl⟩
theorem Holds.weak {F : Fr} {G : Hp} {Γ Γ' : DL.Env} {σ : L2.St} {H : Hp} (h : Holds F G Γ σ H) (w : Wk Γ Γ') : Holds F G Γ' σ H :=
  ⟨h.g0, h.gh, h.bh, h.gb, h.nw, h.len.trans w.sl.len, fun i d e => h.sl i d (w.sl.get i d e), ⟨(w.M.map _).nodup h.mem.nd, fun q hq => h.mem.at_ q (w.M.subset hq)⟩, fun q hq => h.rd q (w.R ▸ hq)⟩
section
variable {X : Cx} {F : Fr} {Γ Γ' : DL.Env}
theorem wss_weak {sts : List Stmt} {O : Out} (w : Wk Γ Γ') (h : WSs X F sts Γ' O) : WSs X F sts Γ O := fun G σ H hh E hE => h G σ H (hh.weak w) E hE
def Out.wk (O : Out) : Out := { nx := fun Γ => ∃ Γ', Wk Γ Γ' ∧ O.nx Γ', rt := O.rt, bk := fun Γ => ∃ Γ', Wk Γ Γ' ∧ O.bk Γ', ct := fun Γ => ∃ Γ', Wk Γ Γ' ∧ O.ct Γ' }
theorem wss_wk {sts : List Stmt} {O : Out} (h : WSs X F sts Γ O.wk) : WSs X F sts Γ O := fun G σ H hh E hE =>
  h G σ H hh E ⟨fun Γ1 G1 σ1 H1 ⟨Γ2, a, b⟩ s h1 => hE.nx Γ2 G1 σ1 H1 b s (h1.weak a), hE.rt, fun Γ1 G1 σ1 H1 ⟨Γ2, a, b⟩ s h1 => hE.bk Γ2 G1 σ1 H1 b s (h1.weak a), fun Γ1 G1 σ1 H1 ⟨Γ2, a, b⟩ s h1 => hE.ct Γ2 G1 σ1 H1 b s (h1.weak a)⟩
theorem ws_wk {st : Stmt} {O : Out} (h : WS X F st Γ { O with nx := fun Γ => ∃ Γ', Wk Γ Γ' ∧ O.nx Γ' }) : WS X F st Γ O := fun G σ H hh E hE =>
  h G σ H hh E ⟨fun Γ1 G1 σ1 H1 ⟨Γ2, a, b⟩ s h1 => hE.nx Γ2 G1 σ1 H1 b s (h1.weak a), hE.rt, hE.bk, hE.ct⟩
end
/-! ### the law's own head -/
def spStart (K : PySem.W.Frag) : Sp := fun vs H Q _ => ∃ (a : Addr) (ns : List Int), vs = [.ref a] ∧ SqL K H a (ns.map V.int) ∧ ns.length ≤ 63 ∧ ∀ q p, H q = none → upd H q (.lst (ns.map V.int)) p = none → Q (.ref p) (upd (upd H q (.lst (ns.map V.int))) p (.lst [.ref q, .int 0, .int 0, .int 0]))
def spLaw (K : PySem.W.Frag) : Sp := fun vs H Q _ => ∃ (a : Addr) (ns : List Int), vs = [.ref a] ∧ SqL K H a (ns.map V.int) ∧ ns.length ≤ 63 ∧ ∀ H', Q (.bl true) H'
/-- what stands after _law_start(script) -/
theorem start_holds {H : Hp} {q p : Addr} {ns : List Int} {σ : L2.St} {sl : List (Option D)} (hq : H q = none) (hp : upd H q (.lst (ns.map V.int)) p = none) (h1 : σ.length = sl.length) (h2 : ∀ (i : Nat) (d : D), sl[i]? = some (some d) → d = .ref p ∧ σ[i]? = some (some (.ref p))) :
    Holds ⟨fun _ => none, fun _ => none⟩ (upd (fun _ => none) q (.lst (ns.map V.int))) ⟨sl, [(p, .lst [.lst (ns.map D.int), .int 0, .int 0, .int 0])], []⟩ σ (upd (upd H q (.lst (ns.map V.int))) p (.lst [.ref q, .int 0, .int 0, .int 0])) := by
  have hpq : p ≠ q := fun e => by
    rw [e, upd_same] at hp; cases hp
  refine ⟨(fun _ _ z => nomatch z), fun b o e => ?_, (fun _ _ z => nomatch z), (fun _ _ z => nomatch z), fun _ _ _ => .inr (.inl rfl), h1, fun i d e => ?_, ⟨by simp, fun z hz => ?_⟩, (fun _ z => nomatch z)⟩
  · by_cases hb : b = q
    · subst hb
      rw [upd_same] at e
      rw [upd_ne hpq.symm, upd_same]
      exact e
    · rw [upd_ne hb] at e; cases e
  · obtain ⟨rfl, e2⟩ := h2 i d e
    exact ⟨_, e2, .ref p⟩
  · have : z = (p, .lst [.lst (ns.map D.int), .int 0, .int 0, .int 0]) := by simpa using hz
    subst this
    refine ⟨rfl, upd_ne hpq, _, upd_same, .lst (.cons ?_ (.cons (.int 0) (.cons (.int 0) (.cons (.int 0) .nil))))⟩
    refine .lst upd_same (by simp) fun i v d e1 e2 => ?_
    rw [List.getElem?_map] at e1 e2
    obtain ⟨n, hn, rfl⟩ := Option.map_eq_some_iff.mp e1
    rw [hn] at e2
    cases e2
    exact .int n
end DL

/-! The D layer, part 10: plain data as data of the library: compared, sorted. -/
namespace DL
open PySem PySem.Spec PyProof.Rows L2 PySem.W
mutual
def dat : D → PyData
  | .non => .none
  | .bl b => .bool b
  | .int i => .int i
  | .str x => .str x
  | .tup ds => .tuple (datAll ds)
  | .lst ds => .list (datAll ds)
  | .ref _ => .dict []
  | .ty _ => .dict []
  | .dK _ => .dict []
  | .dT _ => .dict []
  | .st _ => .dict []
  | .ins _ _ => .dict []
def datAll : List D → List PyData
  | [] => []
  | d :: ds => dat d :: datAll ds
end
theorem datAll_map (ds : List D) : datAll ds = ds.map dat := by
  induction ds with
  | nil => rfl
  | cons d ds ih => show dat d :: datAll ds = dat d :: ds.map dat; rw [ih]
theorem alikeAll_mem : ∀ {xs : List PyData}, alikeAll xs xs = true → ∀ x ∈ xs, alike x x = true
  | [], _, x, h => by cases h
  | y :: xs, h, x, hx => by
    obtain ⟨h1, h2⟩ := alike_all_cons h
    rcases List.mem_cons.mp hx with rfl | hx
    · exact h1
    · exact alikeAll_mem h2 x hx
theorem readsAll_of {h : Heap} : ∀ {us : List Value} {ds : List D}, us.length = ds.length → (∀ (i : Nat) u d, us[i]? = some u → ds[i]? = some d → ∃ as, Reads h u (dat d) as) → ∃ as, ReadsAll h us (datAll ds) as
  | [], [], _, _ => ⟨[], .nil⟩
  | [], _ :: _, e, _ => by cases e
  | _ :: _, [], e, _ => by cases e
  | u :: us, d :: ds, e, q => by
    obtain ⟨as, r⟩ := q 0 u d rfl rfl
    obtain ⟨bs, rs⟩ := readsAll_of (us := us) (ds := ds) (by simpa using e) (fun i x y a b => q (i + 1) x y (by simpa using a) (by simpa using b))
    exact ⟨as ++ bs, .cons r rs⟩
theorem vals_get {xs : List V} {us : List Value} (r : Vals xs us) : ∀ (i : Nat) u, us[i]? = some u → ∃ x, xs[i]? = some x ∧ RelV x u := by
  induction r with
  | nil => exact fun i u h => by simp at h
  | cons a t ih =>
    intro i u h
    cases i with
    | zero => cases h; exact ⟨_, rfl, a⟩
    | succ i => exact ih i u h
/-- what stands for data reads as it -/
theorem Rep.reads {P : Program} {w : World} {G H : Hp} {h : Heap} (sg : Same G H) (hk : HOk P w H h) {v : V} {d : D} (r : Rep G v d) : ∀ u, RelV v u → alike (dat d) (dat d) = true → ∃ as, Reads h u (dat d) as := by
  induction r with
  | non => exact fun u ru _ => by cases ru; exact ⟨_, .none⟩
  | bl b => exact fun u ru _ => by cases ru; exact ⟨_, .bool b⟩
  | int i => exact fun u ru _ => by obtain ⟨t, rfl⟩ := ru; exact ⟨_, .int i t⟩
  | str x => exact fun u ru _ => by obtain ⟨t, rfl⟩ := ru; exact ⟨_, .str x t⟩
  | ref p => exact fun u ru z => by simp [dat, alike] at z
  | ty n => exact fun u ru z => by simp [dat, alike] at z
  | @tup p vs ds hg hl _ ih =>
    intro u ru z
    cases ru
    obtain ⟨_, its, rv, o, ho, hc, n, hd⟩ := hk _ _ (sg _ _ hg)
    have z2 : alikeAll (datAll ds) (datAll ds) = true := by simpa [dat, alike] using z
    obtain ⟨as, rs⟩ := readsAll_of (us := its) (ds := ds) (by rw [← rv.length, hl]) fun i u d a b => by
      obtain ⟨x, e1, e2⟩ := vals_get rv i u a
      refine ih i x d e1 b u e2 (alikeAll_mem z2 _ ?_)
      rw [datAll_map]
      exact List.mem_map_of_mem (List.mem_of_getElem? b)
    exact ⟨as, .tuple ho hc hd (by simpa using rs)⟩
  | @lst p vs ds hg hl _ ih =>
    intro u ru z
    cases ru
    obtain ⟨_, its, n, rv, ho⟩ := hk _ _ (sg _ _ hg)
    have z2 : alikeAll (datAll ds) (datAll ds) = true := by simpa [dat, alike] using z
    obtain ⟨as, rs⟩ := readsAll_of (us := its) (ds := ds) (by rw [← rv.length, hl]) fun i u d a b => by
      obtain ⟨x, e1, e2⟩ := vals_get rv i u a
      refine ih i x d e1 b u e2 (alikeAll_mem z2 _ ?_)
      rw [datAll_map]
      exact List.mem_map_of_mem (List.mem_of_getElem? b)
    exact ⟨_, .list ho rfl rfl (by simpa using rs)⟩
/-! ### sorted -/
theorem each_reads {P : Program} {w : World} {G H : Hp} {h : Heap} (sg : Same G H) (hk : HOk P w H h) {xs : List V} {its : List Value} {ds : List D} (hal : ∀ d ∈ ds, alike (dat d) (dat d) = true) (rv : Vals xs its) (r : Reps G xs ds) : EachIs (fun u (b : V × D) => ∃ as, Reads h u (dat b.2) as) its (xs.zip ds) := by
  induction rv generalizing ds with
  | nil => exact .nil
  | cons a t ih =>
    cases ds with
    | nil => have := r.1; simp at this
    | cons d ds => exact .cons (r.head.reads sg hk _ a (hal d List.mem_cons_self)) (ih (fun d hd => hal d (List.mem_cons_of_mem _ hd)) r.tail)
theorem each_of {G : Hp} {P : Program} {w : World} {xs : List V} {its : List Value} {ds : List D} (rv : Vals xs its) (r : Reps G xs ds) : EachIs (fun u (b : V × D) => RelV b.1 u ∧ Rep G b.1 b.2) its (xs.zip ds) := by
  induction rv generalizing ds with
  | nil => exact .nil
  | cons a t ih =>
    cases ds with
    | nil => have := r.1; simp at this
    | cons d ds => exact .cons ⟨a, r.head⟩ (ih r.tail)
theorem each_vals {G : Hp} {its : List Value} {bs : List (V × D)} (e : EachIs (fun u (b : V × D) => RelV b.1 u ∧ Rep G b.1 b.2) its bs) : Vals (bs.map (·.1)) its ∧ Reps G (bs.map (·.1)) (bs.map (·.2)) := by
  induction e with
  | nil => exact ⟨.nil, Reps.nil⟩
  | cons a t ih => exact ⟨.cons a.1 ih.1, .cons a.2 ih.2⟩
def leD (d e : D) : Bool := dataLe false dat d e
section
variable {X : Cx} {F : Fr} {Γ : DL.Env} {sl : List (Option D)} {M R : Mem} {Q : D → DL.Env → Prop}
theorem call_sortedD : CallR X (.builtin "sorted") (fun vs H Q => ∃ (a : Addr) (xs : List V) (ds : List D) (G : Hp), vs = [.ref a] ∧ SqL X.K H a xs ∧ Reps G xs ds ∧ Same G H ∧ AllAlike (ds.map dat) ∧ Sortable (ds.map dat) ∧ (∀ d ∈ ds, X.A.units + 2 + (dat d).depth < cLine) ∧
    ∀ p ys, H p = none → Reps G ys (ds.mergeSort leD) → Q (.ref p) (upd H p (.lst ys))) := by
  intro pins s σ H vs us Q I r h
  obtain ⟨a, xs, ds, G, rfl, hs, rr, sg, hal, hsr, hu, q⟩ := h
  obtain ⟨its, rv, hl, hz⟩ := I.list hs
  rw [Vals.ref1 r]
  have e := each_of (P := X.prog) (w := X.w) rv rr
  have hen : (xs.zip ds).map (fun b => dat b.2) = ds.map dat := by
    have e1 : (xs.zip ds).map (fun b => dat b.2) = ((xs.zip ds).map Prod.snd).map dat := by rw [List.map_map]; rfl
    rw [e1, List.map_snd_zip (by rw [rr.1]; exact Nat.le_refl _)]
  refine sorted_data (bs := xs.zip ds) (enc := fun b => dat b.2) (R := fun u (b : V × D) => RelV b.1 u ∧ Rep G b.1 b.2) hl.isList e ?_ (by rw [hen]; exact hal) (by rw [hen]; exact hsr) (by rw [List.length_zip, rr.1, Nat.min_self, ← rr.1]; exact hz) (fun b hb => hu _ (List.of_mem_zip hb).2) fun out hlen eo => ?_
  · exact each_reads sg I.hok (fun d hd => hal _ (List.mem_map_of_mem hd) _ (List.mem_map_of_mem hd)) rv rr
  · obtain ⟨v1, r1⟩ := each_vals eo
    obtain ⟨ep, he'⟩ := PyProof.Rows.sortedAll_at s.heap its out.toArray
    have hlen2 : (((xs.zip ds).mergeSort (dataLe false fun b => dat b.2)).map (·.1)).length ≤ sizeLine := by
      rw [List.length_map, List.length_mergeSort, List.length_zip, rr.1, Nat.min_self, ← rr.1]; exact hz
    refine ⟨.ref _, upd H (s.heap.objs.size + 1) (.lst (((xs.zip ds).mergeSort (dataLe false fun b => dat b.2)).map (·.1))), I.laid (t' := s.toks) (fun _ _ => PyProof.Rows.sortedAll_old) (Nat.le_succ _) ⟨hlen2, out, ep, v1, he'⟩, rfl, q _ _ (I.hok.fresh (Nat.le_succ _)) ?_⟩
    have em : ((xs.zip ds).mergeSort (dataLe false fun b => dat b.2)).map (·.2) = ds.mergeSort leD := by
      have e2 := List.map_mergeSort (r := dataLe false fun b : V × D => dat b.2) (s := leD) (f := Prod.snd) (l := xs.zip ds) (fun a _ b _ => rfl)
      refine e2.trans ?_
      rw [List.map_snd_zip (by rw [rr.1]; exact Nat.le_refl _)]
    rw [em] at r1
    exact r1
end
end DL

/-! The D layer, part 11: a dict that is walked is locked: it stands among what is only read. -/
namespace DL
open PySem PySem.Spec PyProof.Rows L2

/-! ### at the state's level -/
section
variable {X : Cx} {H : Hp} {p : Addr} {u : HO}
theorem tUS_lock {st : Stmt} {E : Ends} {σ : L2.St} (h : H p = some u) (mu : Mut (some u))
    (k : ∀ od, tUS X st { nx := fun σ' H' => H' p = some (.frz od u) ∧ E.nx σ' (upd H' p u), rt := fun v H' => H' p = some (.frz od u) ∧ E.rt v (upd H' p u), bk := fun σ' H' => H' p = some (.frz od u) ∧ E.bk σ' (upd H' p u), ct := fun σ' H' => H' p = some (.frz od u) ∧ E.ct σ' (upd H' p u) } σ (upd H p (.frz od u))) : tUS X st E σ H := fun pins s I => by
  obtain ⟨od, I2⟩ := I.lock h mu
  have hn := I.nofrz h mu
  refine thn (k od pins s I2) fun f s1 q => ?_
  cases f with
  | next => obtain ⟨σ', H', I', a, b⟩ := q; exact ⟨σ', _, I'.unlock a hn, b⟩
  | brk => obtain ⟨σ', H', I', a, b⟩ := q; exact ⟨σ', _, I'.unlock a hn, b⟩
  | cont => obtain ⟨σ', H', I', a, b⟩ := q; exact ⟨σ', _, I'.unlock a hn, b⟩
  | ret v => obtain ⟨v', σ', H', I', r, a, b⟩ := q; exact ⟨v', σ', _, I'.unlock a hn, r, b⟩
theorem tU_lock {e : Expr} {σ : L2.St} {Q : VK} (h : H p = some u) (mu : Mut (some u))
    (k : ∀ od, tU X e σ (upd H p (.frz od u)) fun v H' => H' p = some (.frz od u) ∧ Q v (upd H' p u)) : tU X e σ H Q := fun pins s I => by
  obtain ⟨od, I2⟩ := I.lock h mu
  have hn := I.nofrz h mu
  refine thn (k od pins s I2) fun v s1 ⟨x, H', I', r, a, b⟩ => ?_
  exact ⟨x, _, I'.unlock a hn, r, b⟩
end
/-! ### at the level of data -/
/-- the thing at p is locked -/
class Lk (F : Fr) (p : Addr) : Prop where
  e : ∃ od u, F.B p = some (.frz od u)
theorem mutS {G : Hp} {o : HO} {c : D} (h : Shell G o c) : Mut (some o) := by
  cases h with
  | lst _ => trivial
  | dK _ _ => trivial
  | dT _ _ => trivial
  | ins _ _ => trivial
section
variable {F : Fr} {G : Hp} {σ : L2.St} {H : Hp} {sl : List (Option D)} {M R : Mem}
theorem Holds.locked {p : Addr} {c : D} {u : HO} {M' : Mem} {od : Obj} (hh : Holds F G ⟨sl, M, R⟩ σ H) (hp : M.Perm ((p, c) :: M')) (hu : H p = some u) (hs : Shell G u c) :
    Holds ⟨upd F.B p (.frz od u), F.G0⟩ G ⟨sl, M', (p, c) :: R⟩ σ (upd H p (.frz od u)) := by
  obtain ⟨hB, hG, _, _, _⟩ := hh.mem.at_ (p, c) (hp.symm.subset List.mem_cons_self)
  have nd := (hp.map (·.1)).nodup_iff.mp hh.mem.nd
  rw [List.map_cons, List.nodup_cons] at nd
  have hne : ∀ q ∈ M', q.1 ≠ p := fun q hq e => nd.1 (List.mem_map.mpr ⟨q, hq, e⟩)
  refine ⟨hh.g0, fun b o e => ?_, fun b o e => ?_, fun b o e => ?_, fun b o e => ?_, hh.len, hh.sl, ⟨nd.2, fun q hq => ?_⟩, fun q hq => ?_⟩
  · have : b ≠ p := fun z => by
      rw [z] at e
      have : G p = none := hG
      rw [this] at e; cases e
    rw [upd_ne this]; exact hh.gh _ _ e
  · by_cases hb : b = p
    · subst hb
      have e2 : upd F.B b (.frz od u) b = some o := e
      rw [upd_same] at e2; rw [upd_same]; exact e2
    · have e2 : upd F.B p (.frz od u) b = some o := e
      rw [upd_ne hb] at e2; rw [upd_ne hb]; exact hh.bh _ _ e2
  · have : b ≠ p := fun z => by
      rw [z] at e
      have h2 := hh.g0 _ _ e
      have : G p = none := hG
      rw [this] at h2; cases h2
    show upd F.B p (.frz od u) b = some o
    rw [upd_ne this]; exact hh.gb _ _ e
  · by_cases hb : b = p
    · subst hb
      have : G b = none := hG
      rw [this] at e; cases e
    · rcases hh.nw b o e with z | z | z
      · exact .inl z
      · exact .inr (.inl (by show upd F.B p _ b = none; rw [upd_ne hb]; exact z))
      · exact .inr (.inr z)
  · obtain ⟨a, b, o, c1, d⟩ := hh.mem.at_ q (hp.symm.subset (List.mem_cons_of_mem _ hq))
    refine ⟨?_, b, o, ?_, d⟩
    · show upd F.B p _ q.1 = none
      rw [upd_ne (hne q hq)]; exact a
    · rw [upd_ne (hne q hq)]; exact c1
  · rcases List.mem_cons.mp hq with rfl | hq
    · exact ⟨u, .inr ⟨od, upd_same⟩, hs⟩
    · obtain ⟨o, a, b⟩ := hh.rd q hq
      refine ⟨o, ?_, b⟩
      rcases a with a | ⟨z, a⟩
      · left
        show upd F.B p _ q.1 = some o
        rw [upd_ne (fun e => by rw [e] at a; have : F.B p = none := hB; rw [this] at a; cases a)]; exact a
      · right
        refine ⟨z, ?_⟩
        show upd F.B p _ q.1 = _
        rw [upd_ne (fun e => by rw [e] at a; have : F.B p = none := hB; rw [this] at a; cases a)]; exact a
theorem Holds.unlocked {F' : Fr} {p : Addr} {c : D} {u : HO} {od : Obj} (hR : ∀ q ∈ R, q.1 ≠ p) (hB : F.B p = none) (hg : Same F.G0 F.B) (hF : F' = ⟨upd F.B p (.frz od u), F.G0⟩) (hh : Holds F' G ⟨sl, M, (p, c) :: R⟩ σ H) : Holds F G ⟨sl, (p, c) :: M, R⟩ σ (upd H p u) ∧ H p = some (.frz od u) := by
  subst hF
  have hHp : H p = some (.frz od u) := hh.bh p _ upd_same
  have hG0 : F.G0 p = none := hg.free hB
  have hGp : G p = none := by
    cases e : G p with
    | none => rfl
    | some o =>
      rcases hh.nw p o e with z | z | ⟨vs, z⟩
      · have z2 : F.G0 p = some o := z
        rw [hG0] at z2; cases z2
      · have z2 : upd F.B p (.frz od u) p = none := z
        rw [upd_same] at z2; cases z2
      · have := hh.gh _ _ e
        rw [hHp, z] at this; cases this
  have hsh : Shell G u c := by
    obtain ⟨o, a, b⟩ := hh.rd (p, c) List.mem_cons_self
    have e : upd F.B p (.frz od u) p = some (.frz od u) := upd_same
    rcases a with a | ⟨z, a⟩
    · have a2 : upd F.B p (.frz od u) p = some o := a
      rw [e] at a2; cases a2; cases b
    · have a2 : upd F.B p (.frz od u) p = some (.frz z o) := a
      rw [e] at a2; cases a2; exact b
  have hne : ∀ q ∈ M, q.1 ≠ p := fun q hq e => by
    obtain ⟨a, _⟩ := hh.mem.at_ q hq
    have a2 : upd F.B p (.frz od u) q.1 = none := a
    rw [e, upd_same] at a2; cases a2
  refine ⟨⟨hh.g0, fun b o e => ?_, fun b o e => ?_, hg, fun b o e => ?_, hh.len, hh.sl, ⟨?_, fun q hq => ?_⟩, fun q hq => ?_⟩, hHp⟩
  · rw [upd_ne (fun z => by rw [z, hGp] at e; cases e)]; exact hh.gh _ _ e
  · have hb : b ≠ p := fun z => by rw [z, hB] at e; cases e
    rw [upd_ne hb]
    exact hh.bh b o (by show upd F.B p _ b = some o; rw [upd_ne hb]; exact e)
  · have hb : b ≠ p := fun z => by rw [z, hGp] at e; cases e
    rcases hh.nw b o e with z | z | z
    · exact .inl z
    · have z2 : upd F.B p (.frz od u) b = none := z
      rw [upd_ne hb] at z2; exact .inr (.inl z2)
    · exact .inr (.inr z)
  · rw [List.map_cons, List.nodup_cons]
    refine ⟨fun hm => ?_, hh.mem.nd⟩
    obtain ⟨q, hq, e⟩ := List.mem_map.mp hm
    exact hne q hq e
  · rcases List.mem_cons.mp hq with rfl | hq
    · exact ⟨hB, hGp, u, upd_same, hsh⟩
    · obtain ⟨a, b, o, c1, d⟩ := hh.mem.at_ q hq
      have a2 : upd F.B p (.frz od u) q.1 = none := a
      rw [upd_ne (hne q hq)] at a2
      exact ⟨a2, b, o, by rw [upd_ne (hne q hq)]; exact c1, d⟩
  · obtain ⟨o, a, b⟩ := hh.rd q (List.mem_cons_of_mem _ hq)
    refine ⟨o, ?_, b⟩
    have e := hR q hq
    rcases a with a | ⟨z, a⟩
    · have a2 : upd F.B p (.frz od u) q.1 = some o := a
      rw [upd_ne e] at a2; exact .inl a2
    · have a2 : upd F.B p (.frz od u) q.1 = some (.frz z o) := a
      rw [upd_ne e] at a2; exact .inr ⟨z, a2⟩
end
section
variable {X : Cx} {F : Fr} {sl : List (Option D)} {M M' R : Mem} {p : Addr} {c : D} {k : Nat}
def Out.lk (O : Out) (p : Addr) (c : D) (R : Mem) : Out := { nx := fun Γ => ∃ sl1 M1, Γ = ⟨sl1, M1, (p, c) :: R⟩ ∧ O.nx ⟨sl1, (p, c) :: M1, R⟩, rt := fun d Γ => ∃ sl1 M1, Γ = ⟨sl1, M1, (p, c) :: R⟩ ∧ O.rt d ⟨sl1, (p, c) :: M1, R⟩, bk := fun Γ => ∃ sl1 M1, Γ = ⟨sl1, M1, (p, c) :: R⟩ ∧ O.bk ⟨sl1, (p, c) :: M1, R⟩, ct := fun Γ => ∃ sl1 M1, Γ = ⟨sl1, M1, (p, c) :: R⟩ ∧ O.ct ⟨sl1, (p, c) :: M1, R⟩ }
theorem ws_lock {st : Stmt} {O : Out} (p : Addr) [a : At M p c k] [t : Take M k (p, c) M'] (h : ∀ F' : Fr, Lk F' p → WS X F' st ⟨sl, M', (p, c) :: R⟩ (O.lk p c R)) : WS X F st ⟨sl, M, R⟩ O := fun G σ H hh E hE => by
  obtain ⟨hB, hG, u, hu, hs⟩ := hh.mem.at_ (p, c) (List.mem_of_getElem? a.e)
  have hR : ∀ q ∈ R, q.1 ≠ p := fun q hq e => by
    obtain ⟨o, z, _⟩ := hh.rd q hq
    rw [e] at z
    have hB2 : F.B p = none := hB
    rcases z with z | ⟨z1, z⟩ <;> rw [hB2] at z <;> cases z
  refine tUS_lock hu (mutS hs) fun od => h ⟨upd F.B p (.frz od u), F.G0⟩ ⟨od, u, upd_same⟩ G σ _ (hh.locked t.perm hu hs) _ ⟨?_, ?_, ?_, ?_⟩
  · rintro Γ' G' σ' H' ⟨sl1, M1, rfl, q⟩ sg h'
    obtain ⟨h2, e2⟩ := Holds.unlocked hR hB hh.gb rfl h'
    exact ⟨e2, hE.nx _ _ _ _ q sg h2⟩
  · rintro d Γ' G' σ' v H' ⟨sl1, M1, rfl, q⟩ sg h' rv
    obtain ⟨h2, e2⟩ := Holds.unlocked hR hB hh.gb rfl h'
    exact ⟨e2, hE.rt _ _ _ _ _ _ q sg h2 rv⟩
  · rintro Γ' G' σ' H' ⟨sl1, M1, rfl, q⟩ sg h'
    obtain ⟨h2, e2⟩ := Holds.unlocked hR hB hh.gb rfl h'
    exact ⟨e2, hE.bk _ _ _ _ q sg h2⟩
  · rintro Γ' G' σ' H' ⟨sl1, M1, rfl, q⟩ sg h'
    obtain ⟨h2, e2⟩ := Holds.unlocked hR hB hh.gb rfl h'
    exact ⟨e2, hE.ct _ _ _ _ q sg h2⟩
theorem we_lock {e : Expr} {Q : D → DL.Env → Prop} (p : Addr) [a : At M p c k] [t : Take M k (p, c) M'] (h : ∀ F' : Fr, Lk F' p → WE X F' e ⟨sl, M', (p, c) :: R⟩ fun d Γ => ∃ sl1 M1, Γ = ⟨sl1, M1, (p, c) :: R⟩ ∧ Q d ⟨sl1, (p, c) :: M1, R⟩) : WE X F e ⟨sl, M, R⟩ Q := fun G σ H hh E hE => by
  obtain ⟨hB, hG, u, hu, hs⟩ := hh.mem.at_ (p, c) (List.mem_of_getElem? a.e)
  have hR : ∀ q ∈ R, q.1 ≠ p := fun q hq e => by
    obtain ⟨o, z, _⟩ := hh.rd q hq
    rw [e] at z
    have hB2 : F.B p = none := hB
    rcases z with z | ⟨z1, z⟩ <;> rw [hB2] at z <;> cases z
  refine tU_lock hu (mutS hs) fun od => h ⟨upd F.B p (.frz od u), F.G0⟩ ⟨od, u, upd_same⟩ G σ _ (hh.locked t.perm hu hs) _ ?_
  rintro d Γ' G' v H' ⟨sl1, M1, rfl, q⟩ sg h' rv
  obtain ⟨h2, e2⟩ := Holds.unlocked hR hB hh.gb rfl h'
  exact ⟨e2, hE _ _ _ _ _ q sg h2 rv⟩
/-! ### the walk -/
theorem rep_kV {G : Hp} (k : Key) : Rep G (kV k) (kD k) := by
  cases k with
  | inl i => exact .int i
  | inr x => exact .str x
theorem Holds.lkK {G : Hp} {σ : L2.St} {H : Hp} {kds : List (Key × D)} (lk : Lk F p) (hh : Holds F G ⟨sl, M, R⟩ σ H) (m : (p, D.dK kds) ∈ R) : ∃ od kvs, H p = some (.frz od (.dK kvs)) ∧ kvs.map (·.1) = kds.map (·.1) ∧ Reps G (kvs.map (·.2)) (kds.map (·.2)) := by
  obtain ⟨od, u, e⟩ := lk.e
  obtain ⟨o, a, b⟩ := hh.rd _ m
  have ho : o = u := by
    rcases a with a | ⟨z, a⟩
    · have a2 : F.B p = some o := a
      rw [e] at a2; cases a2; cases b
    · have a2 : F.B p = some (.frz z o) := a
      rw [e] at a2; cases a2; rfl
  subst ho
  obtain ⟨kvs, rfl, e1, e2⟩ := b.dK_inv
  exact ⟨od, kvs, hh.bh _ _ e, e1, e2⟩
theorem Holds.lkT {G : Hp} {σ : L2.St} {H : Hp} {kds : List (List Key × D)} (lk : Lk F p) (hh : Holds F G ⟨sl, M, R⟩ σ H) (m : (p, D.dT kds) ∈ R) : ∃ od kvs, H p = some (.frz od (.dT kvs)) ∧ kvs.map (·.1) = kds.map (·.1) ∧ Reps G (kvs.map (·.2)) (kds.map (·.2)) := by
  obtain ⟨od, u, e⟩ := lk.e
  obtain ⟨o, a, b⟩ := hh.rd _ m
  have ho : o = u := by
    rcases a with a | ⟨z, a⟩
    · have a2 : F.B p = some o := a
      rw [e] at a2; cases a2; cases b
    · have a2 : F.B p = some (.frz z o) := a
      rw [e] at a2; cases a2; rfl
  subst ho
  obtain ⟨kvs, rfl, e1, e2⟩ := b.dT_inv
  exact ⟨od, kvs, hh.bh _ _ e, e1, e2⟩
variable {K : List D → (DL.Env → Prop) → DL.Env → Prop} {tg iter : Expr}
/-- for k in d, d locked -/
theorem wiv_keys {kds : List (Key × D)} {j : Nat} [lk : Lk F p] [r : At R p (.dK kds) j] (h : K (kds.map fun kd => kD kd.1) (fun Γ' => Γ'.R = R) ⟨sl, M, R⟩) : WIV X F tg (.ref p) ⟨sl, M, R⟩ K := fun G σ H x hh rx Q hQ pins s v I rv => by
  cases rx
  cases rv
  have m := List.mem_of_getElem? r.e
  obtain ⟨od, kvs, hd, ek, er⟩ := hh.lkK lk m
  obtain ⟨hs, hgd, hx, es, ep, vs, hdt, hsz, kv, hm⟩ := I.frzK hd
  refine iter_keys hs hgd hx hdt (pi_one (tk := s.toks) I _ (turn_keys (d := p) (o := od) (kvs := kvs) _ hdt) ⟨_, Heap.get?_push_size _ rfl, rfl, ?_⟩ (hQ _ _ _ G H _ h (Same.refl G) hh ?_))
  · rw [hsz] <;> rfl
  · intro Γ' G' σ' H' sg h' st
    obtain ⟨sl', M1, R'⟩ := Γ'
    have st2 : R' = R := st
    subst st2
    obtain ⟨od', kvs', hd', ek', _⟩ := h'.lkK lk m
    have hd2 : H' p = some (.frz od (.dK kvs)) := by
      obtain ⟨o1, u1, eB⟩ := lk.e
      have q1 := hh.bh _ _ eB
      have q2 := h'.bh _ _ eB
      rw [hd] at q1; rw [q2, ← q1]
    have el : kvs.length = kds.length := by
      have := congrArg List.length ek
      simpa using this
    refine ⟨⟨hd2, by rw [List.length_map, el]; exact Nat.le_refl _⟩, fun i y hy => ?_⟩
    have hi := (List.getElem?_eq_some_iff.mp hy).1
    rw [List.length_map] at hi
    refine ⟨⟨hd2, by rw [el]; exact hi⟩, fun w H'' ⟨e1, k1, v1, e2, e3⟩ => ⟨G', Same.refl G', by rw [e1]; exact h', ?_⟩⟩
    have e4 : (kvs.map (·.1))[i]? = some k1 := by rw [List.getElem?_map, e2]; rfl
    rw [ek, List.getElem?_map] at e4
    rw [List.getElem?_map] at hy
    obtain ⟨kd, f1, f2⟩ := Option.map_eq_some_iff.mp e4
    rw [f1] at hy
    cases hy
    subst f2
    rw [e3]
    exact rep_kV _
theorem Holds.seeTup {G : Hp} {σ : L2.St} {H : Hp} {Γ : DL.Env} {q : Addr} {vs : List V} (hh : Holds F G Γ σ H) (hq : H q = some (.tup vs)) : ∃ G2, Same G G2 ∧ Holds F G2 Γ σ H ∧ G2 q = some (.tup vs) := by
  cases e : G q with
  | some o =>
    have := hh.gh _ _ e
    rw [hq] at this; cases this
    exact ⟨G, Same.refl G, hh, e⟩
  | none =>
    have sg : Same G (upd G q (.tup vs)) := fun b u e' => by rw [upd_ne (ne_of_none e' e)]; exact e'
    refine ⟨upd G q (.tup vs), sg, ⟨hh.g0.trans sg, fun b o e' => ?_, hh.bh, hh.gb, fun b o e' => ?_, hh.len, fun i d e' => ?_, ⟨hh.mem.nd, fun z hz => ?_⟩, fun z hz => ?_⟩, upd_same⟩
    · by_cases hb : b = q
      · subst hb; rw [upd_same] at e'; rw [hq]; exact e'
      · rw [upd_ne hb] at e'; exact hh.gh _ _ e'
    · by_cases hb : b = q
      · subst hb; rw [upd_same] at e'; cases e'; exact .inr (.inr ⟨_, rfl⟩)
      · rw [upd_ne hb] at e'; exact hh.nw _ _ e'
    · obtain ⟨v, a, b⟩ := hh.sl i d e'
      exact ⟨v, a, b.mono sg⟩
    · obtain ⟨a, b, o, c, d⟩ := hh.mem.at_ z hz
      refine ⟨a, ?_, o, c, d.mono sg⟩
      rw [upd_ne (fun z2 => by rw [z2, hq] at c; cases c; exact d.notT.elim)]; exact b
    · obtain ⟨o, a, b⟩ := hh.rd z hz
      exact ⟨o, a, b.mono sg⟩
theorem reps_kV {G : Hp} (k : List Key) : Reps G (k.map kV) (k.map kD) := by
  induction k with
  | nil => exact Reps.nil
  | cons a k ih => exact .cons (rep_kV a) ih
theorem wiv_keysT {kds : List (List Key × D)} {j : Nat} [lk : Lk F p] [r : At R p (.dT kds) j] (h : K (kds.map fun kd => .tup (kd.1.map kD)) (fun Γ' => Γ'.R = R) ⟨sl, M, R⟩) : WIV X F tg (.ref p) ⟨sl, M, R⟩ K := fun G σ H x hh rx Q hQ pins s v I rv => by
  cases rx
  cases rv
  have m := List.mem_of_getElem? r.e
  obtain ⟨od, kvs, hd, ek, er⟩ := hh.lkT lk m
  obtain ⟨hs, hgd, hx, es, ep, hdt, hsz, ent⟩ := I.frzT hd
  refine iter_keys hs hgd hx hdt (pi_one (tk := s.toks) I _ (turn_keysT (d := p) (o := od) (kvs := kvs) _ hdt) ⟨_, Heap.get?_push_size _ rfl, rfl, ?_⟩ (hQ _ _ _ G H _ h (Same.refl G) hh ?_))
  · rw [hsz] <;> rfl
  · intro Γ' G' σ' H' sg h' st
    obtain ⟨sl', M1, R'⟩ := Γ'
    have st2 : R' = R := st
    subst st2
    have hd2 : H' p = some (.frz od (.dT kvs)) := by
      obtain ⟨o1, u1, eB⟩ := lk.e
      have q1 := hh.bh _ _ eB
      have q2 := h'.bh _ _ eB
      rw [hd] at q1; rw [q2, ← q1]
    have el : kvs.length = kds.length := by
      have := congrArg List.length ek
      simpa using this
    refine ⟨⟨hd2, by rw [List.length_map, el]; exact Nat.le_refl _⟩, fun i y hy => ?_⟩
    have hi := (List.getElem?_eq_some_iff.mp hy).1
    rw [List.length_map] at hi
    refine ⟨⟨hd2, by rw [el]; exact hi⟩, fun w H'' ⟨e1, k1, v1, q, e2, e3, e5⟩ => ?_⟩
    obtain ⟨G2, sg2, h2, eq⟩ := h'.seeTup e5
    refine ⟨G2, sg2, by rw [e1]; exact h2, ?_⟩
    have e4 : (kvs.map (·.1))[i]? = some k1 := by rw [List.getElem?_map, e2]; rfl
    rw [ek, List.getElem?_map] at e4
    rw [List.getElem?_map] at hy
    obtain ⟨kd, f1, f2⟩ := Option.map_eq_some_iff.mp e4
    rw [f1] at hy
    cases hy
    subst f2
    rw [e3]
    have rr := reps_kV (G := G2) kd.1
    exact .tup eq rr.1 rr.2
/-- for k, v in d.items(), d locked -/
def WItems (F : Fr) (d : D) (Γ : DL.Env) (K : List D → (DL.Env → Prop) → DL.Env → Prop) : Prop := ∃ p kds, d = .ref p ∧ Lk F p ∧ (p, D.dK kds) ∈ Γ.R ∧ K (kds.map fun kd => .tup [kD kd.1, kd.2]) (fun Γ' => Γ'.R = Γ.R) Γ
theorem witems_go {kds : List (Key × D)} {j : Nat} [lk : Lk F p] [r : At R p (.dK kds) j] (h : K (kds.map fun kd => .tup [kD kd.1, kd.2]) (fun Γ' => Γ'.R = R) ⟨sl, M, R⟩) : WItems F (.ref p) ⟨sl, M, R⟩ K := ⟨p, kds, rfl, lk, List.mem_of_getElem? r.e, h⟩
theorem wi_items {Γ : DL.Env} {e : Expr} {elts : List Expr} {kk : Nat} {tpos apos cpos : Pos} (hb : attributeBase e "items" X.env (eval e X.env) = eval e X.env) (hline : (apos.endLine == cpos.line) = true) (h : WE X F e Γ fun d Γ1 => WItems F d Γ1 K) : WI X F (.Tuple elts kk tpos) (.Call (.Attribute e "items" apos) [] [] cpos) Γ K := fun G σ H hh R hR pins s I => by
  refine (pi_items pe_U hb hline).run pins s σ H R I ?_
  refine h G σ H hh _ fun d Γ1 G1 v H1 ⟨p, kds, ed, lk, m, q⟩ sg h1 rv => ?_
  subst ed
  cases rv
  obtain ⟨sl1, M1, R1⟩ := Γ1
  obtain ⟨od, kvs, hd, ek, er⟩ := h1.lkK lk m
  refine ⟨p, od, kvs, rfl, hd, hR _ _ _ G1 H1 _ q sg h1 ?_⟩
  intro Γ' G' σ' H' sg' h' st
  obtain ⟨sl', M2, R'⟩ := Γ'
  have st2 : R' = R1 := st
  subst st2
  have hd2 : H' p = some (.frz od (.dK kvs)) := by
    obtain ⟨o1, u1, eB⟩ := lk.e
    have q1 := h1.bh _ _ eB
    have q2 := h'.bh _ _ eB
    rw [hd] at q1; rw [q2, ← q1]
  have el : kvs.length = kds.length := by
    have := congrArg List.length ek
    simpa using this
  refine ⟨⟨hd2, by rw [List.length_map, el]; exact Nat.le_refl _⟩, fun i y hy => ?_⟩
  have hi := (List.getElem?_eq_some_iff.mp hy).1
  rw [List.length_map] at hi
  refine ⟨⟨hd2, by rw [el]; exact hi⟩, fun w H'' ⟨T, k1, v1, e2, e3, e5, e6⟩ => ?_⟩
  obtain ⟨sg2, h2⟩ := h'.newSh (o := .tup [kV k1, v1]) e5
  refine ⟨_, sg2, by rw [e6]; exact h2, ?_⟩
  have e4 : (kvs.map (·.1))[i]? = some k1 := by rw [List.getElem?_map, e2]; rfl
  have e7 : (kvs.map (·.2))[i]? = some v1 := by rw [List.getElem?_map, e2]; rfl
  rw [ek, List.getElem?_map] at e4
  rw [List.getElem?_map] at hy
  obtain ⟨kd, f1, f2⟩ := Option.map_eq_some_iff.mp e4
  rw [f1] at hy
  cases hy
  subst f2
  rw [e3]
  have e8 : (kds.map (·.2))[i]? = some kd.2 := by rw [List.getElem?_map, f1]; rfl
  have r1 : Rep G1 v1 kd.2 := er.2 i v1 kd.2 e7 e8
  have rr : Reps (upd G' T (.tup [kV kd.1, v1])) [kV kd.1, v1] [kD kd.1, kd.2] := .cons (rep_kV _) (.cons (r1.mono (sg'.trans sg2)) .nil)
  exact .tup upd_same rr.1 rr.2
end
end DL

/-! The D layer, part 12: encodings of plain Lean values as data; sorted, in, < .. by the Lean values. -/
namespace DL
open PySem PySem.Spec PyProof.Rows L2 PySem.W PySem.SeqAt

/-! ### encodings -/
class DEq {α : Type} (f : α → D) (n : outParam Nat) : Prop where
  pl : ∀ a, (dat (f a)).plain = true
  ev : ∀ a b, PyData.eqv (dat (f a)) (dat (f b)) = true ↔ a = b
  dp : ∀ a, (dat (f a)).depth ≤ n
class DOrd {α : Type} (f : α → D) (lt : outParam (α → α → Bool)) (n : outParam Nat) : Prop extends DEq f n where
  al : ∀ a b, alike (dat (f a)) (dat (f b)) = true
  lt : ∀ a b, dataLt (dat (f a)) (dat (f b)) = lt a b
/-- what sorted asks of the items: no empty tuples -/
class DSrt {α : Type} (f : α → D) (P : outParam (α → Prop)) : Prop where
  sr : (∀ a, P a → ∃ x r, dat (f a) = .tuple (x :: r)) ∨ ∀ a, P a → dat (f a) ≠ .none ∧ ∀ xs, dat (f a) ≠ .tuple xs
/-- d is f's word for x -/
class EncAs {α : Type} (f : α → D) (d : D) (x : outParam α) : Prop where
  e : d = f x
instance EncAs.int {i : Int} : EncAs D.int (.int i) i := ⟨rfl⟩
instance EncAs.str {i : Str} : EncAs D.str (.str i) i := ⟨rfl⟩
def ltI (a b : Int) : Bool := decide (a < b)
def ltS (a b : Str) : Bool := decide (a.cps.toList < b.cps.toList)

instance DOrd.int : DOrd D.int ltI 0 where
  pl _ := rfl
  ev a b := by simp [dat, PyData.eqv]
  dp _ := Nat.le_refl _
  al a b := by simp [dat, alike]
  lt a b := dataLt_int a b
instance DOrd.str : DOrd D.str ltS 0 where
  pl _ := rfl
  ev a b := by simp [dat, PyData.eqv]
  dp _ := Nat.le_refl _
  al a b := by simp [dat, alike]
  lt a b := dataLt_str a b
instance DSrt.int : DSrt D.int (fun _ => True) := ⟨.inr fun a _ => ⟨by simp [dat], fun xs => by simp [dat]⟩⟩
instance DSrt.str : DSrt D.str (fun _ => True) := ⟨.inr fun a _ => ⟨by simp [dat], fun xs => by simp [dat]⟩⟩
section
variable {α β : Type} {f : α → D} {g : β → D} {lf : α → α → Bool} {lg : β → β → Bool} {n m : Nat}
/-- pairs -/
def ltP2 (lf : α → α → Bool) (lg : β → β → Bool) (p q : α × β) : Bool := lf p.1 q.1 || (!lf q.1 p.1 && lg p.2 q.2)
theorem DEq.pair (hf : DEq f n) (hg : DEq g m) : DEq (fun p : α × β => D.tup [f p.1, g p.2]) (max n m + 1) where
  pl p := by simp [dat, datAll, PyData.plain, PyData.plainAll, hf.pl, hg.pl]
  ev p q := by
    simp only [dat, datAll, PyData.eqv, PyData.eqvAll, Bool.and_true, Bool.and_eq_true, hf.ev, hg.ev]
    exact ⟨fun h => Prod.ext h.1 h.2, fun h => by rw [h]; exact ⟨rfl, rfl⟩⟩
  dp p := by
    have := hf.dp p.1; have := hg.dp p.2
    simp only [dat, datAll, PyData.depth, PyData.depthAll]; omega
theorem DOrd.irr (hf : DOrd f lf n) (a : α) : lf a a = false := by
  rw [← hf.lt]; exact lex_irrefl _
theorem DOrd.trans (hf : DOrd f lf n) {a b c : α} (h1 : lf a b = true) (h2 : lf b c = true) : lf a c = true := by
  rw [← hf.lt] at h1 h2 ⊢; exact lex_trans _ _ _ h1 h2
theorem DOrd.neg (hf : DOrd f lf n) {a b c : α} (h : lf a c = true) : lf a b = true ∨ lf b c = true := by
  rw [← hf.lt] at h ⊢; rw [← hf.lt]; exact lex_negTrans _ _ _ h
theorem DOrd.asym (hf : DOrd f lf n) {a b : α} (h : lf a b = true) : lf b a = false := by
  cases e : lf b a with
  | false => rfl
  | true => have := hf.trans h e; rw [hf.irr] at this; cases this
theorem DOrd.diff (hf : DOrd f lf n) {a b : α} (h : a ≠ b) : lf a b = true ∨ lf b a = true := by
  cases e1 : lf a b with
  | true => exact .inl rfl
  | false =>
    cases e2 : lf b a with
    | true => exact .inr rfl
    | false =>
      rw [← hf.lt] at e1 e2
      have e := lex_total _ _ e1 e2
      refine absurd ?_ h
      cases ev : PyData.eqv (dat (f a)) (dat (f b)) with
      | true => exact (hf.ev a b).mp ev
      | false =>
        have q := (toks_eqv _ _ (hf.al a b)).2 ev [] [.inl 0]
        rw [e, lex_irrefl, lex_pre] at q
        exact absurd q (by decide)
theorem DOrd.pair (hf : DOrd f lf n) (hg : DOrd g lg m) : DOrd (fun p : α × β => D.tup [f p.1, g p.2]) (ltP2 lf lg) (max n m + 1) where
  toDEq := DEq.pair hf.toDEq hg.toDEq
  al p q := by simp [dat, datAll, alike, alikeAll, hf.al, hg.al]
  lt p q := by
    show dataLt (.tuple [dat (f p.1), dat (g p.2)]) (.tuple [dat (f q.1), dat (g q.2)]) = _
    rw [dataLt_tuple]
    unfold ltP2
    cases e : PyData.eqv (dat (f p.1)) (dat (f q.1)) with
    | true =>
      rw [dataLt_all_yes (hf.al _ _) e]
      have e1 := (hf.ev _ _).mp e
      rw [e1, hf.irr]
      cases e2 : PyData.eqv (dat (g p.2)) (dat (g q.2)) with
      | true =>
        rw [dataLt_all_yes (hg.al _ _) e2, (hg.ev _ _).mp e2, hg.irr]
        exact lex_irrefl _
      | false =>
        rw [dataLt_all_no (hg.al _ _) e2, hg.lt]
        simp
    | false =>
      rw [dataLt_all_no (hf.al _ _) e, hf.lt]
      have ne : p.1 ≠ q.1 := fun z => by rw [(hf.ev _ _).mpr z] at e; cases e
      rcases hf.diff ne with z | z
      · rw [z]; rfl
      · rw [z, hf.asym z]; rfl
/-- tuples of one kind -/
def ltL (lf : α → α → Bool) : List α → List α → Bool
  | [], [] => false
  | [], _ :: _ => true
  | _ :: _, [] => false
  | x :: xs, y :: ys => lf x y || (!lf y x && ltL lf xs ys)
theorem DEq.tupl (hf : DEq f n) : DEq (fun l : List α => D.tup (l.map f)) (n + 1) where
  pl l := by
    simp only [dat, datAll_map, PyData.plain]
    induction l with
    | nil => rfl
    | cons a l ih => simp only [List.map_cons, PyData.plainAll, hf.pl, ih, Bool.and_self]
  ev l k := by
    simp only [dat, datAll_map, PyData.eqv]
    induction l generalizing k with
    | nil => cases k <;> simp [PyData.eqvAll]
    | cons a l ih =>
      cases k with
      | nil => simp [PyData.eqvAll]
      | cons b k => simp only [List.map_cons, PyData.eqvAll, Bool.and_eq_true, hf.ev, ih, List.cons.injEq]
  dp l := by
    simp only [dat, datAll_map, PyData.depth]
    induction l with
    | nil => simp [PyData.depthAll]
    | cons a l ih =>
      have := hf.dp a
      simp only [List.map_cons, PyData.depthAll]; omega
theorem DOrd.tupl (hf : DOrd f lf n) : DOrd (fun l : List α => D.tup (l.map f)) (ltL lf) (n + 1) where
  toDEq := DEq.tupl hf.toDEq
  al l k := by
    simp only [dat, datAll_map, alike]
    induction l generalizing k with
    | nil => cases k <;> simp [alikeAll]
    | cons a l ih =>
      cases k with
      | nil => simp [alikeAll]
      | cons b k => simp only [List.map_cons, alikeAll, hf.al, ih, Bool.and_self]
  lt l k := by
    simp only [dat, datAll_map]
    rw [dataLt_tuple]
    induction l generalizing k with
    | nil =>
      cases k with
      | nil => exact lex_irrefl _
      | cons b k =>
        simp only [List.map_cons, List.map_nil]
        rw [toks_all_cons]
        simp only [keyToksAll]
        rw [lex_diff (O := itemOrd) (by simp)]
        rfl
    | cons a l ih =>
      cases k with
      | nil =>
        simp only [List.map_cons, List.map_nil]
        rw [toks_all_cons]
        simp only [keyToksAll]
        rw [lex_diff (O := itemOrd) (by simp)]
        rfl
      | cons b k =>
        simp only [List.map_cons, ltL]
        cases e : PyData.eqv (dat (f a)) (dat (f b)) with
        | true =>
          have e1 := (hf.ev _ _).mp e
          subst e1
          rw [dataLt_all_yes (hf.al _ _) e, hf.irr]
          have := ih k
          simpa using this
        | false =>
          rw [dataLt_all_no (hf.al _ _) e, hf.lt]
          have ne : a ≠ b := fun z => by rw [(hf.ev _ _).mpr z] at e; cases e
          rcases hf.diff ne with z | z
          · rw [z]; rfl
          · rw [z, hf.asym z]; rfl
end
/-! ### sorting, by the Lean values -/
def srt {α : Type} (lt : α → α → Bool) (xs : List α) : List α := xs.mergeSort fun a b => !lt b a
theorem srt_perm {α : Type} {lt : α → α → Bool} {xs : List α} : (srt lt xs).Perm xs := List.mergeSort_perm _ _
theorem srt_len {α : Type} {lt : α → α → Bool} {xs : List α} : (srt lt xs).length = xs.length := List.length_mergeSort _
theorem mem_srt {α : Type} {lt : α → α → Bool} {xs : List α} {x : α} : x ∈ srt lt xs ↔ x ∈ xs := srt_perm.mem_iff
section
variable {α : Type} {f : α → D} {lf : α → α → Bool} {n : Nat}
theorem DOrd.srt_sorted (hf : DOrd f lf n) (xs : List α) : (srt lf xs).Pairwise fun a b => lf b a = false := by
  have := List.pairwise_mergeSort (le := fun a b => !lf b a) (fun a b c h1 h2 => by
    simp only [Bool.not_eq_true'] at h1 h2 ⊢
    cases e : lf c a with
    | false => rfl
    | true =>
      rcases hf.neg (b := b) e with z | z
      · rw [z] at h2; cases h2
      · rw [z] at h1; cases h1) (fun a b => by
    cases e : lf b a with
    | false => rfl
    | true => simp [hf.asym e]) xs
  exact this.imp fun h => by simpa using h
/-- sorted lists of the same items are one -/
theorem DOrd.uniq (hf : DOrd f lf n) {xs ys : List α} (p : xs.Perm ys) (h1 : xs.Pairwise fun a b => lf b a = false) (h2 : ys.Pairwise fun a b => lf b a = false) : xs = ys := by
  refine List.Perm.eq_of_pairwise (le := fun a b => lf b a = false) (fun a b _ _ e1 e2 => ?_) h1 h2 p
  apply Classical.byContradiction
  intro ne
  rcases hf.diff ne with z | z
  · rw [z] at e2; cases e2
  · rw [z] at e1; cases e1
theorem DOrd.srt_eq (hf : DOrd f lf n) {xs ys : List α} (p : xs.Perm ys) : srt lf xs = srt lf ys := hf.uniq ((srt_perm.trans p).trans srt_perm.symm) (hf.srt_sorted _) (hf.srt_sorted _)
theorem DOrd.srt_id (hf : DOrd f lf n) {xs : List α} (h : xs.Pairwise fun a b => lf b a = false) : srt lf xs = xs := hf.uniq srt_perm (hf.srt_sorted _) h
/-- strictly, where no item stands twice -/
theorem DOrd.srt_strict (hf : DOrd f lf n) {xs : List α} (nd : xs.Nodup) : (srt lf xs).Pairwise fun a b => lf a b = true := by
  have h1 := hf.srt_sorted xs
  have h2 : (srt lf xs).Pairwise fun a b => a ≠ b := srt_perm.nodup_iff.mpr nd
  exact (h1.and h2).imp fun ⟨a, b⟩ => by
    rcases hf.diff b with z | z
    · exact z
    · rw [z] at a; cases a
theorem DOrd.leD (hf : DOrd f lf n) (a b : α) : leD (f a) (f b) = !lf b a := by
  rw [← hf.lt]; rfl
theorem DOrd.sorts (hf : DOrd f lf n) (xs : List α) : (xs.map f).mergeSort DL.leD = (srt lf xs).map f :=
  (List.map_mergeSort (r := fun a b => !lf b a) (s := DL.leD) (f := f) (l := xs) (fun a _ b _ => (hf.leD a b).symm)).symm
end
/-! ### the rules -/
section
variable {X : Cx} {F : Fr} {Γ : DL.Env} {sl : List (Option D)} {M R : Mem} {Q : D → DL.Env → Prop}
theorem wc_sorted {α : Type} {f : α → D} {lt : α → α → Bool} {n : Nat} {P : α → Prop} {d : D} {xs : List α} [sd : SeeL M R d (xs.map f)] [hf : DOrd f lt n] [hs : DSrt f P] (hX : Std X) (hn : n ≤ 60) (hP : ∀ x ∈ xs, P x)
    (q : ∀ p, Q (.ref p) ⟨sl, (p, .lst ((srt lt xs).map f)) :: M, R⟩) : WC X F (.builtin "sorted") [d] ⟨sl, M, R⟩ Q := wc_of call_sortedD fun G σ H vs hh rr K hK => by
  obtain ⟨v, rfl, r⟩ := rr.one
  obtain ⟨p, us, rfl, hS, hr⟩ := hh.seeL (K := X.K) r sd.see
  have hu := hX.hu
  refine ⟨p, us, xs.map f, G, rfl, hS, hr, hh.gh, ?_, ?_, ?_, fun a ys ha hy => ?_⟩
  · intro x hx y hy
    rw [List.map_map] at hx hy
    obtain ⟨a, _, rfl⟩ := List.mem_map.mp hx
    obtain ⟨b, _, rfl⟩ := List.mem_map.mp hy
    exact hf.al a b
  · rcases hs.sr with z | z
    · refine .inl fun x hx => ?_
      rw [List.map_map] at hx
      obtain ⟨a, ha, rfl⟩ := List.mem_map.mp hx
      exact z a (hP a ha)
    · refine .inr fun x hx => ?_
      rw [List.map_map] at hx
      obtain ⟨a, ha, rfl⟩ := List.mem_map.mp hx
      exact z a (hP a ha)
  · intro x hx
    obtain ⟨a, _, rfl⟩ := List.mem_map.mp hx
    have := hf.dp a
    omega
  · rw [hf.sorts] at hy
    exact hK _ _ G _ _ (q a) (Same.refl G) (hh.newOwn ha (.lst hy)) (.ref a)
/-- x in a list, a tuple -/
theorem op_inData {neg : Bool} : OpR X (compareOp (if neg then .NotIn else .In)) (fun x y H Q => ∃ (G : Hp) (d : D) (p : Addr) (vs : List V) (ds : List D), Same G H ∧ Rep G x d ∧ y = .ref p ∧ (SqL X.K H p vs ∨ SqT X.K H p vs) ∧ Reps G vs ds ∧ (∀ e ∈ ds, (dat e).plain = true ∧ alike (dat e) (dat e) = true) ∧ (dat d).plain = true ∧ alike (dat d) (dat d) = true ∧ X.A.units + 1 + (dat d).depth < cLine ∧
    Q (.bl (if neg then !(ds.any fun e => PyData.eqv (dat e) (dat d)) else ds.any fun e => PyData.eqv (dat e) (dat d))) H) := by
  intro pins s σ H x y v u Q I rx ry h
  obtain ⟨G, d, p, vs, ds, sg, rd, rfl, hS, rr, hpl, hd, had, hu, q⟩ := h
  cases ry
  obtain ⟨bs, rb⟩ := rd.reads sg I.hok v rx had
  have hpa : PyData.plainAll (datAll ds) = true := by
    rw [datAll_map]
    clear rr q
    induction ds with
    | nil => rfl
    | cons e ds ih => simp only [List.map_cons, PyData.plainAll, (hpl e List.mem_cons_self).1, ih fun z hz => hpl z (List.mem_cons_of_mem _ hz), Bool.and_self]
  have hua : X.A.units + 1 + min (PyData.depthAll (datAll ds)) (dat d).depth < cLine := by omega
  have ea : ((datAll ds).any fun y => PyData.eqv y (dat d)) = ds.any fun e => PyData.eqv (dat e) (dat d) := by rw [datAll_map, List.any_map]; rfl
  have items : ∀ its : List Value, Vals vs its → ∃ as, ReadsAll s.heap its (datAll ds) as := fun its rv => by
    refine readsAll_of (by rw [← rv.length, rr.1]) fun i w e a b => ?_
    obtain ⟨z, e1, e2⟩ := vals_get rv i w a
    exact (rr.2 i z e e1 b).reads sg I.hok w e2 (hpl e (List.mem_of_getElem? b)).2
  rcases hS with hS | hS
  · obtain ⟨its, rv, pl, hz⟩ := I.list hS
    obtain ⟨o, ho, hc, n, hdt⟩ := pl.isList
    obtain ⟨as, ra⟩ := items its rv
    have rc : Reads s.heap (.ref p) (.list (datAll ds)) (p :: as) := .list ho hc hdt (by simpa using ra)
    cases neg with
    | false => exact in_list_data rc rb hpa hd hua ⟨.bl _, H, I, rfl, by rw [ea]; simpa using q⟩
    | true => exact notIn_list_data rc rb hpa hd hua ⟨.bl _, H, I, rfl, by rw [ea]; simpa using q⟩
  · obtain ⟨its, rv, pl, hz⟩ := I.tuple hS
    obtain ⟨o, ho, hc, n, hdt⟩ := pl
    obtain ⟨as, ra⟩ := items its rv
    have rc : Reads s.heap (.ref p) (.tuple (datAll ds)) as := .tuple ho hc hdt (by simpa using ra)
    cases neg with
    | false => exact in_tuple_data rc rb hpa hd hua ⟨.bl _, H, I, rfl, by rw [ea]; simpa using q⟩
    | true => exact notIn_tuple_data rc rb hpa hd hua ⟨.bl _, H, I, rfl, by rw [ea]; simpa using q⟩
theorem any_mem {α : Type} [DecidableEq α] {f : α → D} {n : Nat} (hf : DEq f n) (x : α) (xs : List α) : ((xs.map f).any fun e => PyData.eqv (dat e) (dat (f x))) = decide (x ∈ xs) := by
  rw [List.any_map, Bool.eq_iff_iff, List.any_eq_true, decide_eq_true_eq]
  constructor
  · rintro ⟨y, hy, e⟩
    have := (hf.ev y x).mp e
    rw [← this]; exact hy
  · exact fun h => ⟨x, h, (hf.ev x x).mpr rfl⟩
theorem wo_inD {α : Type} [DecidableEq α] {f : α → D} {lt : α → α → Bool} {n : Nat} {d1 d2 : D} {x : α} {xs : List α} [sd : SeeQ M R d2 (xs.map f)] [hf : DOrd f lt n] [en : EncAs f d1 x] (hX : Std X) (hn : n ≤ 60) (q : Q (.bl (decide (x ∈ xs))) ⟨sl, M, R⟩) : WO X F (compareOp .In) d1 d2 ⟨sl, M, R⟩ Q := by
  rw [en.e]
  refine wo_of (op_inData (neg := false)) fun G σ H v u hh r1 r2 K hK => ?_
  have hu := hX.hu
  have hdp := hf.dp x
  have h0 : ∃ (p : Addr) (vs : List V), u = .ref p ∧ (SqL X.K H p vs ∨ SqT X.K H p vs) ∧ Reps G vs (xs.map f) := by
    rcases sd.see with s | s
    · obtain ⟨p, vs, e, hS, hr⟩ := hh.seeL (K := X.K) r2 s
      exact ⟨p, vs, e, .inl hS, hr⟩
    · obtain ⟨p, vs, e, hS, hr⟩ := hh.seeT (K := X.K) r2 s
      exact ⟨p, vs, e, .inr hS, hr⟩
  obtain ⟨p, vs, e, hS, hr⟩ := h0
  refine ⟨G, f x, p, vs, xs.map f, hh.gh, r1, e, hS, hr, fun z hz => ?_, hf.pl x, hf.al x x, by omega, ?_⟩
  · obtain ⟨a, _, rfl⟩ := List.mem_map.mp hz
    exact ⟨hf.pl a, hf.al a a⟩
  · rw [any_mem hf.toDEq]
    exact hK.here hh q (.bl _)
theorem wo_ninD {α : Type} [DecidableEq α] {f : α → D} {lt : α → α → Bool} {n : Nat} {d1 d2 : D} {x : α} {xs : List α} [sd : SeeQ M R d2 (xs.map f)] [hf : DOrd f lt n] [en : EncAs f d1 x] (hX : Std X) (hn : n ≤ 60) (q : Q (.bl (!decide (x ∈ xs))) ⟨sl, M, R⟩) : WO X F (compareOp .NotIn) d1 d2 ⟨sl, M, R⟩ Q := by
  rw [en.e]
  refine wo_of (op_inData (neg := true)) fun G σ H v u hh r1 r2 K hK => ?_
  have hu := hX.hu
  have hdp := hf.dp x
  have h0 : ∃ (p : Addr) (vs : List V), u = .ref p ∧ (SqL X.K H p vs ∨ SqT X.K H p vs) ∧ Reps G vs (xs.map f) := by
    rcases sd.see with s | s
    · obtain ⟨p, vs, e, hS, hr⟩ := hh.seeL (K := X.K) r2 s
      exact ⟨p, vs, e, .inl hS, hr⟩
    · obtain ⟨p, vs, e, hS, hr⟩ := hh.seeT (K := X.K) r2 s
      exact ⟨p, vs, e, .inr hS, hr⟩
  obtain ⟨p, vs, e, hS, hr⟩ := h0
  refine ⟨G, f x, p, vs, xs.map f, hh.gh, r1, e, hS, hr, fun z hz => ?_, hf.pl x, hf.al x x, by omega, ?_⟩
  · obtain ⟨a, _, rfl⟩ := List.mem_map.mp hz
    exact ⟨hf.pl a, hf.al a a⟩
  · rw [any_mem hf.toDEq]
    exact hK.here hh q (.bl _)
end
end DL

/-! The D layer, part 13: sets of ints and texts, as lists of keys without repetition. -/
namespace DL
open PySem PySem.Spec PyProof.Rows L2

section
variable {κ : Type} [DecidableEq κ] {P : Program} {w : World} {knd : PySem.KeyKind P w κ} {h h' : Heap} {a : Addr} {ks : List κ}
/-- the key that a value stands for -/
noncomputable def keyV (knd : PySem.KeyKind P w κ) (v : Value) : Option κ := open Classical in if q : ∃ k, knd.is k v = true then some q.choose else none
theorem keyV_is {k : κ} {v : Value} (e : knd.is k v = true) : keyV knd v = some k := by
  unfold keyV
  have q : ∃ k, knd.is k v = true := ⟨k, e⟩
  rw [dif_pos q, knd.inj v _ _ q.choose_spec e]
theorem is_keyV {k : κ} {v : Value} (e : keyV knd v = some k) : knd.is k v = true := by
  unfold keyV at e
  split at e
  · rename_i q; cases e; exact q.choose_spec
  · cases e
/-- the set at a has just the keys ks -/
structure KSet (knd : PySem.KeyKind P w κ) (h : Heap) (a : Addr) (ks : List κ) : Prop where
  ex : ∃ o es ep t, (h.get? a = some o ∧ o.ExactSet ∧ o.data = .set es ep t) ∧ ElemsOf knd es.toList ∧ (es.toList.map fun e => keyV knd e.2).Perm (ks.map some) ∧ es.size < scanBound ∧ t.fits es.size = true ∧ Ris t.place.toList ∧ (w.params.followText "set-order" = true ∨ t.led = true)
  nd : ks.Nodup
theorem KSet.stay (m : KSet knd h a ks) (e : ∀ o, h.get? a = some o → h'.get? a = some o) : KSet knd h' a ks := by
  obtain ⟨⟨o, es, ep, t, ⟨h1, h2⟩, r⟩, nd⟩ := m
  exact ⟨⟨o, es, ep, t, ⟨e o h1, h2⟩, r⟩, nd⟩
theorem KSet.perm {ks' : List κ} (m : KSet knd h a ks) (p : ks'.Perm ks) : KSet knd h a ks' := by
  obtain ⟨⟨o, es, ep, t, r1, r2, r3, r4⟩, nd⟩ := m
  exact ⟨⟨o, es, ep, t, r1, r2, r3.trans (p.symm.map some), r4⟩, p.nodup_iff.mpr nd⟩
theorem keys_find {es : List (Int × Value)} (pk : (es.map fun e => keyV knd e.2).Perm (ks.map some)) {k : κ} : k ∈ ks ↔ ∃ e ∈ es, knd.is k e.2 = true := by
  have e1 : k ∈ ks ↔ some k ∈ ks.map some := by simp
  rw [e1, ← pk.mem_iff, List.mem_map]
  exact ⟨fun ⟨e, he, q⟩ => ⟨e, he, is_keyV q⟩, fun ⟨e, he, q⟩ => ⟨e, he, keyV_is q⟩⟩
/-- one key more -/
def addK (k : κ) (ks : List κ) : List κ := if k ∈ ks then ks else ks ++ [k]
/-- the keys of a list, each once, in the order in which they come -/
def onceK : List κ → List κ → List κ
  | acc, [] => acc
  | acc, k :: r => onceK (addK k acc) r
variable {A : Around} {E : Value → Shared → Prop} {s : Shared}
theorem setM_tail {o : Obj} {es es1 : Array (Int × Value)} {ep : Nat} {t t2 : SetTable} {gw : Bool → Sem Unit} {dm : Bool} {Z : Option Bool → Shared → Prop} (gwOk : ∀ (b : Bool) (s1 : Shared) (Q1 : Unit → Shared → Prop), Q1 () s1 → wpAny (model P w) A (gw b) Q1 E s1)
    (at0 : s.heap.get? a = some o ∧ o.ExactSet ∧ o.data = .set es ep t) (el : ElemsOf knd es1.toList) (pk : (es1.toList.map fun e => keyV knd e.2).Perm (ks.map some)) (nd : ks.Nodup) (sm : es1.size < scanBound) (ft : t2.fits es1.size = true) (ri : Ris t2.place.toList) (ld : w.params.followText "set-order" = true ∨ t2.led = true)
    (fin : ∀ hx, Heap.SameBut a s.heap hx → KSet knd hx a ks → Z (some true) { s with heap := hx }) :
    wpAny (model P w) A (storeSet a es1 t2 >>= fun _ => if (!dm && t2.tooFull) = true then (gw (relayAll t2 es1 (SetTable.grown es1.size)).2.2 >>= fun _ => storeSet a (relayAll t2 es1 (SetTable.grown es1.size)).1 (relayAll t2 es1 (SetTable.grown es1.size)).2.1 >>= fun _ => pure (some true)) else pure (some true)) Z E s := by
  obtain ⟨g1, g2, g3⟩ := at0
  refine wpAny_bind (wpAny_storeSet_of g1 g3 ?_ (fits_of_scanBound sm))
  have k1 := store_at (es' := es1) (t' := t2) g1 g3
  have b1 : Heap.SameBut a s.heap _ := Heap.SameBut.update s.heap a (Obj.putSet es1 t2)
  by_cases c : (!dm && t2.tooFull) = true
  · rw [if_pos c]
    have q1 := relayAll_perm t2 es1 (SetTable.grown es1.size); have q2 := relayAll_fits t2 es1 (SetTable.grown es1.size)
    have q3 := relayAll_ris t2 es1 (SetTable.grown es1.size); have q4 := relayAll_led t2 es1 (SetTable.grown es1.size)
    revert q1 q2 q3 q4
    rcases relayAll t2 es1 (SetTable.grown es1.size) with ⟨es2, t3, gv⟩
    intro q1 q2 q3 q4
    have sz : es2.size = es1.size := by simpa using q1.length_eq
    have sm2 : es2.size < scanBound := sz ▸ sm
    refine wpAny_bind (gwOk _ _ _ (wpAny_bind (wpAny_storeSet_of k1 rfl (wpAny_pure (fin _ (b1.trans (Heap.SameBut.update _ a _)) ⟨⟨_, es2, _, t3, ⟨store_at (es' := es2) (t' := t3) k1 rfl, g2, rfl⟩, el.perm q1, (q1.map _).trans pk, sm2, q2, q3, ?_⟩, nd⟩)) (fits_of_scanBound sm2))))
    exact ld.imp id fun z => q4.trans z
  · rw [if_neg c]
    exact wpAny_pure (fin _ b1 ⟨⟨_, es1, _, t2, ⟨k1, g2, rfl⟩, el, pk, sm, ft, ri, ld⟩, nd⟩)
theorem setM_add {k : κ} {v : Value} {Q : Bool → Shared → Prop} (m : KSet knd s.heap a ks) (iv : knd.is k v = true) (sv : v.scannable = true) (room : ks.length + 1 < scanBound)
    (fin : ∀ hx, Heap.SameBut a s.heap hx → KSet knd hx a (addK k ks) → Q (!decide (k ∈ ks)) { s with heap := hx }) : wpAny (model P w) A (setAddHashed a v (knd.hash k)) Q E s := by
  obtain ⟨⟨o, es, ep, t, ⟨g1, g2, g3⟩, el, pk, sm, ft, ri, ld⟩, nd⟩ := id m
  have len : es.size = ks.length := by simpa using pk.length_eq
  unfold setAddHashed setAddHashedIn
  refine wpAny_holding (wpAny_bind (wpAny_setState_of g1 g3 ft ?_))
  dsimp only
  rw [byScan_of sv sm el]
  simp only [↓reduceIte]; unfold setAddByScan
  refine wpAny_bind (wpAny_bind (wpAny_rule (wpAny_bind (wpAny_setScan_of iv g1 g3 ft el ?_))))
  by_cases hk : k ∈ ks
  · obtain ⟨j, hj⟩ : ∃ j, List.findIdx? (fun e => knd.is k e.2) es.toList = some j := by
      obtain ⟨e, he, q⟩ := (keys_find pk).mp hk
      cases z : List.findIdx? (fun e => knd.is k e.2) es.toList with
      | some j => exact ⟨j, rfl⟩
      | none => have c := List.findIdx?_eq_none_iff.mp z e he; rw [q] at c; cases c
    rw [hj]; dsimp only
    have z := fin s.heap (Heap.SameBut.refl a s.heap) (by unfold addK; rw [if_pos hk]; exact m)
    rw [decide_eq_true hk] at z
    exact wpAny_pure (wpAny_pure z)
  · have hn : List.findIdx? (fun e => knd.is k e.2) es.toList = none := by
      refine List.findIdx?_eq_none_iff.mpr fun e he => ?_
      cases z : knd.is k e.2 with
      | false => rfl
      | true => exact absurd ((keys_find pk).mpr ⟨e, he, z⟩) hk
    rw [hn]; dsimp only
    rw [decide_eq_false hk] at fin
    have eadd : addK k ks = ks ++ [k] := by unfold addK; rw [if_neg hk]
    rw [eadd] at fin
    have p1 := layNew_perm t es (knd.hash k) v; have p2 := layNew_fits t es (knd.hash k) v
    have p3 := layNew_ris t es (knd.hash k) v ri; have p4 := layNew_led t es (knd.hash k) v
    revert p1 p2 p3 p4
    rcases layNew t es (knd.hash k) v with ⟨es1, t1, dm, gv⟩
    intro p1 p2 p3 p4
    rw [Array.toList_push] at p1
    have el1 : ElemsOf knd es1.toList := (el.push iv sv).perm p1
    have pk1 : (es1.toList.map fun e => keyV knd e.2).Perm ((ks ++ [k]).map some) := by
      refine (p1.map _).trans ?_
      rw [List.map_append, List.map_append]
      refine pk.append ?_
      show [keyV knd v].Perm [some k]
      rw [keyV_is iv]
    have nd1 : (ks ++ [k]).Nodup := List.nodup_append.mpr ⟨nd, by simp, fun x hx y hy e => hk (by rw [List.mem_singleton.mp hy] at e; exact e ▸ hx)⟩
    have sm1 : es1.size < scanBound := by
      have e : es1.size = es.size + 1 := by simpa using p1.length_eq
      rw [e, len]; exact room
    have ld1 : w.params.followText "set-order" = true ∨ t1.led = true := ld.imp id fun z => p4.trans z
    refine wpAny_bind ?_
    have gwOk : ∀ (b : Bool) {s1 : Shared} {Q1 : Unit → Shared → Prop}, Q1 () s1 → wpAny (model P w) A (match b with | true => rule "set.scan.the-table-gave-way" | false => pure ()) Q1 E s1 := fun b s1 Q1 q => by
      cases b
      · exact wpAny_pure q
      · exact wpAny_rule q
    refine gwOk _ ?_
    split
    · refine wpAny_bind ?_
      rw [hashByValue_scannable 8 sv]
      refine wpAny_pure (setM_tail (fun b s1 Q1 q => ?_) ⟨g1, g2, g3⟩ el1 pk1 nd1 sm1 ?_ ?_ ?_ fun hx sb r => ?_)
      · cases b
        · exact wpAny_pure q
        · exact wpAny_rule q
      · first
          | exact p2
          | (split
             · exact p2
             · exact SetTable.fits_plain_off p2)
      · first
          | exact p3
          | (split <;> exact p3)
      · first
          | exact ld1
          | (split <;> exact ld1)
      · exact wpAny_pure (fin hx sb r)
    · refine wpAny_bind (wpAny_pure ?_)
      simp only [↓reduceIte]
      refine setM_tail (fun b s1 Q1 q => ?_) ⟨g1, g2, g3⟩ el1 pk1 nd1 sm1 p2 p3 ld1 fun hx sb r => ?_
      · cases b
        · exact wpAny_pure q
        · exact wpAny_rule q
      · exact wpAny_pure (fin hx sb r)
/-! ### set(xs) -/
def onceL (zs : List κ) : List κ := zs.foldl (fun acc k => addK k acc) []
theorem onceL_snoc (zs : List κ) (k : κ) : onceL (zs ++ [k]) = addK k (onceL zs) := by
  unfold onceL
  rw [List.foldl_append]; rfl
theorem addK_len (k : κ) (ks : List κ) : (addK k ks).length ≤ ks.length + 1 := by
  unfold addK
  split
  · omega
  · simp
theorem mem_addK {k x : κ} {ks : List κ} : x ∈ addK k ks ↔ x ∈ ks ∨ x = k := by
  unfold addK
  split
  · rename_i h; exact ⟨.inl, fun z => z.elim id fun e => e ▸ h⟩
  · simp
theorem mem_onceL {x : κ} (zs : List κ) : x ∈ onceL zs ↔ x ∈ zs := by
  have aux : ∀ (zs acc : List κ), x ∈ zs.foldl (fun acc k => addK k acc) acc ↔ x ∈ acc ∨ x ∈ zs := by
    intro zs
    induction zs with
    | nil => simp
    | cons z zs ih =>
      intro acc
      rw [List.foldl_cons, ih, mem_addK, List.mem_cons, or_assoc]
  unfold onceL
  simpa using aux zs []
theorem onceL_len (zs : List κ) : (onceL zs).length ≤ zs.length := by
  have aux : ∀ (zs acc : List κ), (zs.foldl (fun acc k => addK k acc) acc).length ≤ acc.length + zs.length := by
    intro zs
    induction zs with
    | nil => intro acc; exact Nat.le_refl _
    | cons z zs ih =>
      intro acc
      have h1 := ih (addK z acc)
      have h2 := addK_len z acc
      rw [List.foldl_cons, List.length_cons]
      omega
  unfold onceL
  simpa using aux zs []
theorem onceL_nodup (zs : List κ) : (onceL zs).Nodup := by
  have aux : ∀ (zs acc : List κ), acc.Nodup → (zs.foldl (fun acc k => addK k acc) acc).Nodup := by
    intro zs
    induction zs with
    | nil => exact fun _ h => h
    | cons z zs ih =>
      intro acc h
      refine ih _ ?_
      show (addK z acc).Nodup
      unfold addK
      split
      · exact h
      · rename_i hz
        exact List.nodup_append.mpr ⟨h, by simp, fun x hx y hy e => hz (by rw [List.mem_singleton.mp hy] at e; exact e ▸ hx)⟩
  exact aux zs [] List.nodup_nil
abbrev freshO (w : World) : Obj := { cls := .type "set", dict := none, data := .set #[] 0 (.fresh 0 0 (!w.params.followText "set-order")) }
theorem kset_fresh (e : h.get? a = some (freshO w)) : KSet knd h a [] :=
  ⟨⟨freshO w, #[], 0, .fresh 0 0 (!w.params.followText "set-order"), ⟨e, ⟨rfl, rfl, rfl⟩, rfl⟩, fun _ z => by simp at z, List.Perm.refl _, by decide, by rfl, List.Pairwise.nil, by
    cases z : w.params.followText "set-order" with
    | true => exact .inl rfl
    | false => exact .inr rfl⟩, List.nodup_nil⟩
/-- the loop of set.update -/
theorem kset_loop {it st : Addr} {fp wr : List Addr} {gr : Array GenState → Array GenState → Prop} {n : Nat} {pv : Nat → Value → Prop} {sx : Nat → Shared → Prop} {R : Result → Shared → Prop} (wk : WalksS P w A.in1 it fp wr gr n pv sx) (apart : st ∉ fp) (zs : List κ) (len : n = zs.length) (room : zs.length + 1 < scanBound)
    (key : ∀ i v, pv i v → ∃ k, zs[i]? = some k ∧ knd.is k v = true ∧ v.scannable = true) : ∀ (m i : Nat) (s : Shared), i + m = n → sx i s → KSet knd s.heap st (onceL (zs.take i)) →
      (∀ s', Moved (st :: wr) gr s s' → KSet knd s'.heap st (onceL zs) → R (.ok (.ret .none)) s') → codeAny (model P w) A (.builtin "set.update.loop" ⟨[.ref st, .ref it], []⟩) R s := by
  have apart2 : st ∉ wr := fun z => apart (wk.sub _ z)
  have sub2 : ∀ b ∈ wr, b ∈ st :: wr := fun b z => List.mem_cons_of_mem _ z
  intro m
  induction m with
  | zero =>
    intro i s e hx hk fin
    have ei : i = n := e
    subst ei
    refine codeAny_builtin F.entry_set_update_loop ?_
    rw [Around.under_plainId F.plain_set_update_loop _]
    show wpAny _ A.in1 (pyNext (.ref it) >>= _) _ _ s
    refine wpAny_bind (wk.done s _ _ hx fun s' mv => ?_)
    show wpAny _ A.in1 (ret Value.none) _ _ s'
    rw [List.take_of_length_le (Nat.le_of_eq len.symm)] at hk
    exact wpAny_pure (fin s' (mv.mono sub2) (hk.stay fun o z => mv.heap st o apart2 z))
  | succ m ih =>
    intro i s e hx hk fin
    have lt : i < n := by omega
    refine codeAny_builtin F.entry_set_update_loop ?_
    rw [Around.under_plainId F.plain_set_update_loop _]
    show wpAny _ A.in1 (pyNext (.ref it) >>= _) _ _ s
    refine wpAny_bind (wk.item i s _ _ lt hx fun v s' hv hx' mv => ?_)
    obtain ⟨k, hz, iv, sv⟩ := key i v hv
    have hk' := hk.stay (h' := s'.heap) fun o z => mv.heap st o apart2 z
    show wpAny _ A.in1 (holding [v] (setAdd st v) >>= _) _ _ s'
    refine wpAny_bind (wpAny_holding ?_)
    unfold setAdd
    refine wpAny_holding (wpAny_bind (knd.pyHash iv ?_))
    have small : (onceL (zs.take i)).length + 1 < scanBound := by
      have := onceL_len (zs.take i)
      rw [List.length_take] at this
      omega
    refine setM_add (s := { s' with toks := s'.toks + 1 }) hk' iv sv small fun hx2 sb hk2 => ?_
    rw [← onceL_snoc, show zs.take i ++ [k] = zs.take (i + 1) by rw [List.take_add_one, hz]; rfl] at hk2
    refine wpAny_pure ⟨plainId_quiet F.plain_set_update_loop _, ih (i + 1) _ (by omega) (wk.frame _ s' _ _ hx' (Nat.le_succ _) fun b hb o z => ?_) hk2 fun s2 mv2 hk3 => ?_⟩
    · exact (sb.2 b fun z2 => apart (z2 ▸ hb)).trans z
    · exact fin s2 (Moved.trans wk.gtrans ((mv.mono sub2).then_heap (Nat.le_succ _) fun b o hb z => (sb.2 b fun z2 => hb (by rw [z2]; exact List.mem_cons_self)).trans z) mv2) hk3
end
end DL

/-! The D layer, part 14: set(xs) of ints and texts. -/
namespace DL
open PySem PySem.Spec PyProof.Rows L2
section
variable {κ : Type} [DecidableEq κ] {P : Program} {w : World} {knd : PySem.KeyKind P w κ} {A : Around} {E : Value → Shared → Prop} {s : Shared}
theorem code_newSet (x : Value) {Q : Value → Shared → Prop} (q : Q (.ref s.heap.objs.size) { s with heap := s.heap.push (freshO w) }) : codeAny (model P w) A (.call (.builtin "set.__new__") ⟨[.type "set", x], []⟩) (wants Q E) s := code_set_led1 x q
theorem call_kset_list {l : Addr} {its : Array Value} (zs : List κ) {Q : Value → Shared → Prop} (calm : A.handled = none) (hl : s.heap.IsList l its) (len : its.size = zs.length) (key : ∀ (i : Nat) (v : Value), its[i]? = some v → ∃ k, zs[i]? = some k ∧ knd.is k v = true ∧ v.scannable = true) (room : zs.length + 1 < scanBound)
    (fin : ∀ hx tk, KSet knd hx s.heap.objs.size (onceL zs) → (∀ b o, s.heap.get? b = some o → hx.get? b = some o) → Q (.ref s.heap.objs.size) { s with heap := hx, toks := tk }) : wpAny (model P w) A (call (.type "set") [.ref l]) Q E s := by
  obtain ⟨cc, tl, mro⟩ := F.called_set.mro
  have made := F.called_set.made; have sub := F.called_set.sub
  refine wpAny_call (codeAny_of_tree (by
    show wpAny _ _ (callAny (.type "set") _) _ _ _
    refine wpAny_pure ⟨Code.quiet_builtin _ (by decide +kernel), codeAny_builtin F.entry_type_call ?_⟩
    rw [Around.under_plain (weight_type_call_type "set" [.ref l] []) rfl]
    have f1 := F.called_set.notType; have f2 := F.called_set.canCreate; have f3 := F.typeCall_set_1 (.ref l)
    repeat (any_goals (first | assumption | wp_step))
    refine codeAny_mono (code_newSet (P := P) (w := w) (.ref l) (E := E) (Q := fun x s1 => x = .ref s.heap.objs.size ∧ s1 = { s with heap := s.heap.push (freshO w) }) ⟨rfl, rfl⟩) fun r s1 hr => ?_
    match r, hr with
    | .error e, hr => exact hr
    | .ok .next, hr => exact hr.elim
    | .ok .brk, hr => exact hr.elim
    | .ok .cont, hr => exact hr.elim
    | .ok (.ret x), hr =>
      obtain ⟨rfl, rfl⟩ := hr
      have at0 : (s.heap.push (freshO w)).get? s.heap.objs.size = some (freshO w) := Heap.get?_push_size _ rfl
      have ty0 : Shared.TypeIs { s with heap := s.heap.push (freshO w) } (.ref s.heap.objs.size) "set" := ⟨_, at0, rfl⟩
      have f4 := F.called_set.init.lookup; have f5 := F.called_set.init.bind (.ref s.heap.objs.size)
      repeat (any_goals (first | assumption | wp_step))
      refine codeAny_mono (codeAny_call_builtin (R := wants (fun y s2 => y = .none ∧ ∃ hx tk, s2 = { s with heap := hx, toks := tk } ∧ KSet knd hx s.heap.objs.size (onceL zs) ∧ ∀ b o, s.heap.get? b = some o → hx.get? b = some o) E) F.called_set.init.plain F.entry_set_init (check_set_init_1 ty0 (by
        obtain ⟨⟨oc, od, oda, os⟩, ol, e1, nl, e2⟩ := hl
        simp only at e1 e2
        subst e1; subst e2
        have ol2 : (s.heap.push (freshO w)).get? l = some { cls := .type "list", dict := od, data := .seq its nl, slots := os } := Heap.get?_push_of_some _ ol
        have b1 := F.sub_list_set; have b2 := F.sub_list_frozenset
        have b3 : (Value.type "list" == Value.type "dict") = false := by decide
        have il : (s.heap.push (freshO w)).IsList l its := ⟨_, ol2, rfl, nl, rfl⟩
        unfold Builtin.«set.__init__» noKeywords Builtin.Frozenset.updateFrom
        generalize gPI : pyIter = PI
        wp_walk
        subst gPI
        refine wpAny_pyIter_list il (wpAny_bind (wpAny_runValue ?_))
        have lt0 : l < s.heap.objs.size := Heap.lt_size ol
        have calm3 : A.in1.in1.in1.handled = none := by simp [calm]
        have ne1 : l ≠ (s.heap.push (freshO w)).objs.size := by
          rw [Heap.size_push]; exact Nat.ne_of_lt (Nat.lt_succ_of_lt lt0)
        have ap : s.heap.objs.size ∉ [(s.heap.push (freshO w)).objs.size, l] := by
          rw [Heap.size_push]
          intro z
          rcases List.mem_cons.mp z with z | z
          · exact absurd z (Nat.ne_of_lt (Nat.lt_succ_self _))
          · exact absurd (List.mem_singleton.mp z) (Nat.ne_of_gt lt0)
        refine kset_loop (Walks.list calm3 _ l ne1 its).toS ap zs len room key its.size 0 _ (Nat.zero_add _) ⟨⟨_, Heap.get?_push_size _ rfl, rfl, rfl⟩, il.push _⟩ (kset_fresh (Heap.get?_push_of_some _ at0)) ?_
        rintro ⟨hx, g2, d2, tk2, o2⟩ mv ks2
        have q1 : g2 = s.gens := mv.gens
        have q2 : d2 = s.drawn := mv.drawn
        have q3 : o2 = s.os := mv.os
        subst q1; subst q2; subst q3
        show wpAny _ _ _ _ _ _
        refine wpAny_pure ?_
        show wpAny _ _ (ret Value.none) _ _ _
        refine wpAny_pure ⟨rfl, hx, tk2, rfl, ks2, fun b o e => mv.heap b o (fun z => ?_) (Heap.get?_push_of_some _ (Heap.get?_push_of_some _ e))⟩
        have lb : b < s.heap.objs.size := Heap.lt_size e
        rcases List.mem_cons.mp z with z | z
        · exact absurd lb (by rw [z]; exact Nat.lt_irrefl _)
        · exact absurd lb (by
            rw [List.mem_singleton.mp z, Heap.size_push]
            exact Nat.not_lt_of_le (Nat.le_succ _))))) fun r2 s2 hr2 => ?_
      match r2, hr2 with
      | .error e, hr2 => exact hr2
      | .ok .next, hr2 => exact hr2.elim
      | .ok .brk, hr2 => exact hr2.elim
      | .ok .cont, hr2 => exact hr2.elim
      | .ok (.ret y), hr2 =>
        obtain ⟨rfl, hx, tk, rfl, ks2, old⟩ := hr2
        repeat (any_goals (first | assumption | wp_step))
        exact fin hx tk ks2 old))
theorem call_kset_tuple {l : Addr} {its : Array Value} (zs : List κ) {Q : Value → Shared → Prop} (calm : A.handled = none) (hl : s.heap.IsTuple l its) (len : its.size = zs.length) (key : ∀ (i : Nat) (v : Value), its[i]? = some v → ∃ k, zs[i]? = some k ∧ knd.is k v = true ∧ v.scannable = true) (room : zs.length + 1 < scanBound)
    (fin : ∀ hx tk, KSet knd hx s.heap.objs.size (onceL zs) → (∀ b o, s.heap.get? b = some o → hx.get? b = some o) → Q (.ref s.heap.objs.size) { s with heap := hx, toks := tk }) : wpAny (model P w) A (call (.type "set") [.ref l]) Q E s := by
  obtain ⟨cc, tl, mro⟩ := F.called_set.mro
  have made := F.called_set.made; have sub := F.called_set.sub
  refine wpAny_call (codeAny_of_tree (by
    show wpAny _ _ (callAny (.type "set") _) _ _ _
    refine wpAny_pure ⟨Code.quiet_builtin _ (by decide +kernel), codeAny_builtin F.entry_type_call ?_⟩
    rw [Around.under_plain (weight_type_call_type "set" [.ref l] []) rfl]
    have f1 := F.called_set.notType; have f2 := F.called_set.canCreate; have f3 := F.typeCall_set_1 (.ref l)
    repeat (any_goals (first | assumption | wp_step))
    refine codeAny_mono (code_newSet (P := P) (w := w) (.ref l) (E := E) (Q := fun x s1 => x = .ref s.heap.objs.size ∧ s1 = { s with heap := s.heap.push (freshO w) }) ⟨rfl, rfl⟩) fun r s1 hr => ?_
    match r, hr with
    | .error e, hr => exact hr
    | .ok .next, hr => exact hr.elim
    | .ok .brk, hr => exact hr.elim
    | .ok .cont, hr => exact hr.elim
    | .ok (.ret x), hr =>
      obtain ⟨rfl, rfl⟩ := hr
      have at0 : (s.heap.push (freshO w)).get? s.heap.objs.size = some (freshO w) := Heap.get?_push_size _ rfl
      have ty0 : Shared.TypeIs { s with heap := s.heap.push (freshO w) } (.ref s.heap.objs.size) "set" := ⟨_, at0, rfl⟩
      have f4 := F.called_set.init.lookup; have f5 := F.called_set.init.bind (.ref s.heap.objs.size)
      repeat (any_goals (first | assumption | wp_step))
      refine codeAny_mono (codeAny_call_builtin (R := wants (fun y s2 => y = .none ∧ ∃ hx tk, s2 = { s with heap := hx, toks := tk } ∧ KSet knd hx s.heap.objs.size (onceL zs) ∧ ∀ b o, s.heap.get? b = some o → hx.get? b = some o) E) F.called_set.init.plain F.entry_set_init (check_set_init_1 ty0 (by
        obtain ⟨⟨oc, od, oda, os⟩, ol, e1, nl, e2⟩ := hl
        simp only at e1 e2
        subst e1; subst e2
        have ol2 : (s.heap.push (freshO w)).get? l = some { cls := .type "tuple", dict := od, data := .seq its nl, slots := os } := Heap.get?_push_of_some _ ol
        have b1 := F.sub_tuple_set; have b2 := F.sub_tuple_frozenset
        have b3 : (Value.type "tuple" == Value.type "dict") = false := by decide
        have il : (s.heap.push (freshO w)).IsTuple l its := ⟨_, ol2, rfl, nl, rfl⟩
        unfold Builtin.«set.__init__» noKeywords Builtin.Frozenset.updateFrom
        generalize gPI : pyIter = PI
        wp_walk
        subst gPI
        refine wpAny_pyIter_tuple il (wpAny_bind (wpAny_runValue ?_))
        have lt0 : l < s.heap.objs.size := Heap.lt_size ol
        have calm3 : A.in1.in1.in1.handled = none := by simp [calm]
        have ne1 : l ≠ (s.heap.push (freshO w)).objs.size := by
          rw [Heap.size_push]; exact Nat.ne_of_lt (Nat.lt_succ_of_lt lt0)
        have ap : s.heap.objs.size ∉ [(s.heap.push (freshO w)).objs.size, l] := by
          rw [Heap.size_push]
          intro z
          rcases List.mem_cons.mp z with z | z
          · exact absurd z (Nat.ne_of_lt (Nat.lt_succ_self _))
          · exact absurd (List.mem_singleton.mp z) (Nat.ne_of_gt lt0)
        refine kset_loop (Walks.tuple calm3 _ l ne1 its).toS ap zs len room key its.size 0 _ (Nat.zero_add _) ⟨⟨_, Heap.get?_push_size _ rfl, rfl, rfl⟩, il.push _⟩ (kset_fresh (Heap.get?_push_of_some _ at0)) ?_
        rintro ⟨hx, g2, d2, tk2, o2⟩ mv ks2
        have q1 : g2 = s.gens := mv.gens
        have q2 : d2 = s.drawn := mv.drawn
        have q3 : o2 = s.os := mv.os
        subst q1; subst q2; subst q3
        show wpAny _ _ _ _ _ _
        refine wpAny_pure ?_
        show wpAny _ _ (ret Value.none) _ _ _
        refine wpAny_pure ⟨rfl, hx, tk2, rfl, ks2, fun b o e => mv.heap b o (fun z => ?_) (Heap.get?_push_of_some _ (Heap.get?_push_of_some _ e))⟩
        have lb : b < s.heap.objs.size := Heap.lt_size e
        rcases List.mem_cons.mp z with z | z
        · exact absurd lb (by rw [z]; exact Nat.lt_irrefl _)
        · exact absurd lb (by
            rw [List.mem_singleton.mp z, Heap.size_push]
            exact Nat.not_lt_of_le (Nat.le_succ _))))) fun r2 s2 hr2 => ?_
      match r2, hr2 with
      | .error e, hr2 => exact hr2
      | .ok .next, hr2 => exact hr2.elim
      | .ok .brk, hr2 => exact hr2.elim
      | .ok .cont, hr2 => exact hr2.elim
      | .ok (.ret y), hr2 =>
        obtain ⟨rfl, hx, tk, rfl, ks2, old⟩ := hr2
        repeat (any_goals (first | assumption | wp_step))
        exact fin hx tk ks2 old))
end
end DL

/-! The D layer, part 15: sorted(set), len(set). -/
namespace DL
open PySem PySem.Spec PyProof.Rows L2 PySem.W
section
variable {P : Program} {w : World} {A : Around} {E : Value → Shared → Prop} {s : Shared} {a : Addr} {ks : List Key}
theorem keyIs_rel {k : Key} {v : Value} (e : (mixKind P w).is k v = true) : RelV (kV k) v := relV_key e
theorem keys_of {vs : List Value} (p : (vs.map (keyV (mixKind P w))).Perm (ks.map some)) : ∃ ys : List Key, ys.Perm ks ∧ EachIs (fun v k => (mixKind P w).is k v = true) vs ys := by
  have aux : ∀ (vs : List Value), (∀ v ∈ vs, ∃ k, keyV (mixKind P w) v = some k) → ∃ ys : List Key, vs.map (keyV (mixKind P w)) = ys.map some ∧ EachIs (fun v k => (mixKind P w).is k v = true) vs ys := by
    intro vs
    induction vs with
    | nil => exact fun _ => ⟨[], rfl, .nil⟩
    | cons v vs ih =>
      intro h
      obtain ⟨k, hk⟩ := h v List.mem_cons_self
      obtain ⟨ys, e1, e2⟩ := ih fun x hx => h x (List.mem_cons_of_mem _ hx)
      exact ⟨k :: ys, by rw [List.map_cons, List.map_cons, hk, e1], .cons (is_keyV hk) e2⟩
  obtain ⟨ys, e1, e2⟩ := aux vs fun v hv => by
    have := p.mem_iff.mp (List.mem_map_of_mem hv)
    obtain ⟨k, _, e⟩ := List.mem_map.mp this
    exact ⟨k, e.symm⟩
  refine ⟨ys, ?_, e2⟩
  rw [e1] at p
  have q := p.filterMap id
  simpa using q
theorem each_sel {R : Value → Key → Prop} : ∀ {vs : List Value} {ys : List Key}, EachIs R vs ys → ∀ {R' : Value → Key → Prop}, (∀ v k, R v k → R' v k) → EachIs R' vs ys
  | _, _, .nil, _, _ => .nil
  | _, _, .cons h t, _, f => .cons (f _ _ h) (each_sel t f)
def leK (j k : Key) : Bool := leD (kD j) (kD k)
theorem sorted_kset {Q : Value → Shared → Prop} (m : KSet (mixKind P w) s.heap a ks) (calm : A.handled = none) (hu : A.units + 64 < cLine) (hal : ∀ j ∈ ks, ∀ k ∈ ks, alike (dat (kD j)) (dat (kD k)) = true)
    (fin : ∀ s' p (out : Array Value) (c : Nat) (ys : List Key), (∀ b o, s.heap.get? b = some o → s'.heap.get? b = some o) → s'.gens = s.gens → s'.os = s.os → s.heap.objs.size ≤ p → s'.heap.get? p = some (seqObj "list" out c) → ys.Perm ks → EachIs (fun v k => (mixKind P w).is k v = true) out.toList (ys.mergeSort leK) → Q (.ref p) s') :
    wpAny (model P w) A (call (.builtin "sorted") [.ref a]) Q E s := by
  obtain ⟨⟨o, es, ep, t, ⟨g1, g2, g3⟩, el, pk, sm, ft, ri, ld⟩, nd⟩ := m
  refine Calls.call_function_entry kind_sorted plain_sorted entry_sorted (args_sorted1 _) ?_
  unfold Builtin.«sorted»
  refine wpAny_bind (m := checkCount "sorted" 1 1 _) (wpAny_pure (wpAny_bind (collect_set (A := A.in1) calm ⟨o, g1, g2.1, g3⟩ ft sm ri ld fun s1 vs old sz gg oo pm => ?_)))
  have pv : (vs.map (keyV (mixKind P w))).Perm (ks.map some) := by
    refine (pm.map _).trans ?_
    rw [List.map_map]
    exact pk
  obtain ⟨ys, py, ey⟩ := keys_of pv
  have small : vs.length ≤ sizeLine := by
    rw [pm.length_eq, List.length_map, Array.length_toList]
    exact fits_of_scanBound sm
  have len : vs.length = ys.length := ey.length
  refine wpAny_bind (wpAny_newList ?_ small)
  have new : (s1.heap.push (seqObj "list" vs.toArray 0)).get? s1.heap.objs.size = some (seqObj "list" vs.toArray 0) := Heap.get?_push_size _ rfl
  refine wpAny_bind (wpAny_holding (thn (Q := fun v s2 => ∃ out : List Value, v = .none ∧ EachIs (fun v k => (mixKind P w).is k v = true) out (ys.mergeSort leK) ∧ s2 = { s1 with heap := sortedHeap (s1.heap.push (seqObj "list" vs.toArray 0)) s1.heap.objs.size vs out.toArray }) ?_ fun v s2 ⟨out, e1, e2, e3⟩ => ?_))
  · refine list_sort_data (enc := fun k => dat (kD k)) (R := fun v k => (mixKind P w).is k v = true) new ey (each_sel ey fun v k e => ?_) ?_ ?_ (by rw [← len]; exact small) (fun k _ => ?_) fun out _ eo => ⟨out, rfl, eo, rfl⟩
    · rcases keyIs_shape e with ⟨i, tk, rfl, rfl⟩ | ⟨x, tk, rfl, rfl⟩
      · exact ⟨[], .int i tk, by simp⟩
      · exact ⟨[], .str x tk, by simp⟩
    · intro d hd d2 hd2
      obtain ⟨j, hj, rfl⟩ := List.mem_map.mp hd
      obtain ⟨k, hk, rfl⟩ := List.mem_map.mp hd2
      exact hal j (py.mem_iff.mp hj) k (py.mem_iff.mp hk)
    · refine .inr fun d hd => ?_
      obtain ⟨j, _, rfl⟩ := List.mem_map.mp hd
      cases j with
      | inl i => exact ⟨by simp [kD, dat], fun xs => by simp [kD, dat]⟩
      | inr x => exact ⟨by simp [kD, dat], fun xs => by simp [kD, dat]⟩
    · have : (dat (kD k)).depth = 0 := by cases k <;> rfl
      rw [this]
      show A.units + 1 + 1 + 0 < cLine
      omega
  · subst e1; subst e3
    obtain ⟨c, hc⟩ := sortedHeap_at (vs := vs) (out := out.toArray) new
    refine wpAny_pure ⟨_, rfl, fin _ s1.heap.objs.size out.toArray c ys (fun b u e => ?_) gg oo sz hc py (by simpa using e2)⟩
    have q := old b u e
    have lt := Heap.lt_size q
    show (sortedHeap (s1.heap.push (seqObj "list" vs.toArray 0)) s1.heap.objs.size vs out.toArray).get? b = some u
    rw [sortedHeap_old (Nat.ne_of_lt lt) (by rw [size_push']; exact Nat.lt_succ_of_lt lt)]
    exact Heap.get?_push_of_some _ q
end
/-! ### as rules of the layer -/
abbrev stO (P : Program) (w : World) (a : Addr) (ks : List Key) : HO := .ext fun h => KSet (mixKind P w) h a ks
section
variable {X : Cx}
/-- set(xs), xs a list or a tuple of ints and texts -/
theorem call_setK (calm : X.calm = true) : CallR X (.type "set") (fun vs H Q => ∃ (l : Addr) (ks : List Key), vs = [.ref l] ∧ (SqL X.K H l (ks.map kV) ∨ SqT X.K H l (ks.map kV)) ∧ ks.length ≤ 4000 ∧ ∀ a, H a = none → Q (.ref a) (upd H a (stO X.prog X.w a (onceL ks)))) := by
  intro pins s σ H vs us Q I r h
  obtain ⟨l, ks, rfl, hS, hz, q⟩ := h
  rw [Vals.ref1 r]
  have room : ks.length + 1 < scanBound := by
    have : scanBound = 4096 := rfl
    omega
  have hH : H s.heap.objs.size = none := I.hok.fresh (Nat.le_refl _)
  have key : ∀ its : List Value, Vals (ks.map kV) its → ∀ (i : Nat) (v : Value), its[i]? = some v → ∃ k, ks[i]? = some k ∧ (mixKind X.prog X.w).is k v = true ∧ v.scannable = true := fun its rv i v hv => by
    obtain ⟨x, e1, e2⟩ := vals_get rv i v hv
    rw [List.getElem?_map] at e1
    obtain ⟨k, e3, rfl⟩ := Option.map_eq_some_iff.mp e1
    refine ⟨k, e3, ?_⟩
    cases k with
    | inl j => obtain ⟨t, rfl⟩ := e2; exact ⟨mixKind_int _ _ j t, rfl⟩
    | inr x => obtain ⟨t, rfl⟩ := e2; exact ⟨mixKind_str _ _ x t, rfl⟩
  have fin : ∀ hx tk, KSet (mixKind X.prog X.w) hx s.heap.objs.size (onceL ks) → (∀ b o, s.heap.get? b = some o → hx.get? b = some o) → EP X pins σ Q (.ref s.heap.objs.size) { s with heap := hx, toks := tk } := fun hx tk ks2 old => by
    refine ⟨.ref s.heap.objs.size, _, I.laid (t' := tk) (o := stO X.prog X.w s.heap.objs.size (onceL ks)) old (Nat.le_refl _) ⟨ks2, ?_, fun h1 h2 m e => m.stay e⟩, rfl, q _ hH⟩
    obtain ⟨⟨o, _, _, _, ⟨e, _⟩, _⟩, _⟩ := ks2
    exact ⟨o, e⟩
  rcases hS with hS | hS
  · obtain ⟨its, rv, pl, _⟩ := I.list hS
    have len : its.toArray.size = ks.length := by have := rv.length; simp at this; simp [this]
    exact call_kset_list (knd := mixKind X.prog X.w) ks (I.ok.hd calm) pl.isList len (fun i v hv => key its rv i v (by simpa using hv)) room fin
  · obtain ⟨its, rv, pl, _⟩ := I.tuple hS
    have len : its.toArray.size = ks.length := by have := rv.length; simp at this; simp [this]
    exact call_kset_tuple (knd := mixKind X.prog X.w) ks (I.ok.hd calm) pl len (fun i v hv => key its rv i v (by simpa using hv)) room fin
/-- sorted(set) -/
theorem call_sortedK (calm : X.calm = true) (hu : X.A.units + 64 < cLine) : CallR X (.builtin "sorted") (fun vs H Q => ∃ (a : Addr) (ks : List Key), vs = [.ref a] ∧ H a = some (stO X.prog X.w a ks) ∧ (∀ j ∈ ks, ∀ k ∈ ks, PySem.W.alike (dat (kD j)) (dat (kD k)) = true) ∧ ∀ (ys : List Key) (p : Addr), ys.Perm ks → H p = none → Q (.ref p) (upd H p (.lst ((ys.mergeSort leK).map kV)))) := by
  intro pins s σ H vs us Q I r h
  obtain ⟨a, ks, rfl, ha, hal, q⟩ := h
  rw [Vals.ref1 r]
  have m : KSet (mixKind X.prog X.w) s.heap a ks := (I.hok a _ ha).1
  refine sorted_kset m (I.ok.hd calm) hu hal fun s' p out c ys old gg oo sz hp py eo => ?_
  have hn : H p = none := I.hok.fresh sz
  have vals : ∀ {us : List Value} {zs : List Key}, PySem.W.EachIs (fun v k => (mixKind X.prog X.w).is k v = true) us zs → Vals (zs.map kV) us := by
    intro us zs e
    induction e with
    | nil => exact .nil
    | cons h _ ih => exact .cons (keyIs_rel h) ih
  have rv := vals eo
  have small : ((ys.mergeSort leK).map kV).length ≤ sizeLine := by
    obtain ⟨⟨o, es, ep, t, _, _, pk, sm, _⟩, _⟩ := m
    have e1 : es.size = ks.length := by simpa using pk.length_eq
    rw [List.length_map, List.length_mergeSort, py.length_eq, ← e1]
    exact fits_of_scanBound sm
  have J : Inv X pins σ (upd H p (.lst ((ys.mergeSort leK).map kV))) { s with heap := s'.heap, gens := s'.gens, drawn := s'.drawn, toks := s'.toks } :=
    I.call (ch := []) (Un.laid old sz hn) (I.hok.laid old sz ⟨small, out.toList, c, rv, by simpa using hp⟩) (gg.symm ▸ I.bare) fun _ z => nomatch z
  have e : s' = { s with heap := s'.heap, gens := s'.gens, drawn := s'.drawn, toks := s'.toks } := by
    cases s'; cases s; cases oo; rfl
  rw [e]
  exact ⟨.ref p, _, J, rfl, q ys p py hn⟩
end
end DL

/-! The D layer, part 16: sorted(set(xs)), len(set(xs)), by the Lean values. -/
namespace DL
open PySem PySem.Spec PyProof.Rows L2
class KeyEnc {α : Type} (f : α → D) (g : outParam (α → Key)) : Prop where
  e : ∀ a, f a = kD (g a)
  inj : ∀ a b, g a = g b → a = b
instance KeyEnc.int : KeyEnc D.int Sum.inl := ⟨fun _ => rfl, fun _ _ h => by cases h; rfl⟩
instance KeyEnc.str : KeyEnc D.str Sum.inr := ⟨fun _ => rfl, fun _ _ h => by cases h; rfl⟩
theorem onceL_map {α β : Type} [DecidableEq α] [DecidableEq β] {g : α → β} (inj : ∀ a b, g a = g b → a = b) (xs : List α) : onceL (xs.map g) = (onceL xs).map g := by
  have aux : ∀ (xs acc : List α), (xs.map g).foldl (fun acc k => addK k acc) (acc.map g) = (xs.foldl (fun acc k => addK k acc) acc).map g := by
    intro xs
    induction xs with
    | nil => exact fun _ => rfl
    | cons x xs ih =>
      intro acc
      rw [List.map_cons, List.foldl_cons, List.foldl_cons, ← ih]
      congr 1
      unfold addK
      by_cases h : x ∈ acc
      · rw [if_pos h, if_pos (List.mem_map_of_mem h)]
      · rw [if_neg h, if_neg (fun z => h (by
          obtain ⟨y, hy, e⟩ := List.mem_map.mp z
          rw [← inj _ _ e]; exact hy)), List.map_append]
        rfl
  exact aux xs []
theorem perm_of_map {α β : Type} {g : α → β} {m ys : List β} (p : m.Perm ys) : ∀ l : List α, l.map g = m → ∃ zs : List α, ys = zs.map g ∧ zs.Perm l := by
  induction p with
  | nil =>
    intro l e
    cases l with
    | nil => exact ⟨[], rfl, .refl _⟩
    | cons a l => cases e
  | cons x _ ih =>
    intro l e
    cases l with
    | nil => cases e
    | cons a l =>
      obtain ⟨e1, e2⟩ := List.cons.inj e
      obtain ⟨zs, e3, p3⟩ := ih l e2
      exact ⟨a :: zs, by rw [List.map_cons, e1, e3], p3.cons a⟩
  | swap x y r =>
    intro l e
    match l, e with
    | a :: b :: l, e =>
      obtain ⟨e1, e2⟩ := List.cons.inj e
      obtain ⟨e3, e4⟩ := List.cons.inj e2
      exact ⟨b :: a :: l, by rw [List.map_cons, List.map_cons, e1, e3, e4], .swap a b l⟩
  | trans _ _ ih1 ih2 =>
    intro l e
    obtain ⟨zs, e1, p1⟩ := ih1 l e
    obtain ⟨us, e2, p2⟩ := ih2 zs e1.symm
    exact ⟨us, e2, p2.trans p1⟩
theorem Holds.junk {F : Fr} {G : Hp} {Γ : DL.Env} {σ : L2.St} {H : Hp} (h : Holds F G Γ σ H) {p : Addr} {o : HO} (hp : H p = none) : Holds F G Γ σ (upd H p o) :=
  ⟨h.g0, h.gh.trans fun b u e => by rw [upd_ne (ne_of_none e hp)]; exact e, h.bh.trans fun b u e => by rw [upd_ne (ne_of_none e hp)]; exact e, h.gb, h.nw, h.len, h.sl, ⟨h.mem.nd, fun q m => by
    obtain ⟨a, b, o', e', s'⟩ := h.mem.at_ q m
    exact ⟨a, b, o', by rw [upd_ne (ne_of_none e' hp)]; exact e', s'⟩⟩, h.rd⟩
theorem reps_keys {G : Hp} : ∀ {ks : List Key} {vs : List V}, Reps G vs (ks.map kD) → vs = ks.map kV
  | [], vs, h => h.nil_inv
  | k :: ks, vs, h => by
    obtain ⟨v, vr, rfl, a, b⟩ := Reps.cons_inv (ds := ks.map kD) h
    rw [a.kD_inv, reps_keys b]; rfl
theorem kv_reps {G : Hp} (ks : List Key) : Reps G (ks.map kV) (ks.map kD) := reps_kV ks
section
variable {X : Cx} {F : Fr} {Γ : DL.Env} {sl : List (Option D)} {M R : Mem} {Q : D → DL.Env → Prop}
/-- what the value of e gives to sorted(set(e)) -/
def WSorted (X : Cx) (F : Fr) (d : D) (Γ : DL.Env) (Q : D → DL.Env → Prop) : Prop := ∀ G σ H x, Holds F G Γ σ H → Rep G x d → ∀ R, Good F Q G σ R →
  ∃ (l : Addr) (ks : List Key), [x] = [V.ref l] ∧ (SqL X.K H l (ks.map kV) ∨ SqT X.K H l (ks.map kV)) ∧ ks.length ≤ 4000 ∧ (∀ j ∈ onceL ks, ∀ k ∈ onceL ks, PySem.W.alike (dat (kD j)) (dat (kD k)) = true) ∧
    ∀ a, H a = none → ∀ (ys : List Key) (p : Addr), ys.Perm (onceL ks) → upd H a (stO X.prog X.w a (onceL ks)) p = none → R (.ref p) (upd (upd H a (stO X.prog X.w a (onceL ks))) p (.lst ((ys.mergeSort leK).map kV)))
theorem wsorted_go {α : Type} [DecidableEq α] {f : α → D} {lt : α → α → Bool} {n : Nat} {g : α → Key} {d : D} {xs : List α} [sd : SeeQ M R d (xs.map f)] [hf : DOrd f lt n] [kg : KeyEnc f g] (hz : xs.length ≤ 4000) (q : ∀ p, Q (.ref p) ⟨sl, (p, .lst ((srt lt (onceL xs)).map f)) :: M, R⟩) : WSorted X F d ⟨sl, M, R⟩ Q := fun G σ H x hh rx K hK => by
  have ef : xs.map f = (xs.map g).map kD := by
    rw [List.map_map]
    exact List.map_congr_left fun a _ => kg.e a
  have h0 : ∃ (p : Addr) (vs : List V), x = .ref p ∧ (SqL X.K H p vs ∨ SqT X.K H p vs) ∧ Reps G vs ((xs.map g).map kD) := by
    rw [← ef]
    rcases sd.see with s | s
    · obtain ⟨p, vs, e, hS, hr⟩ := hh.seeL (K := X.K) rx s
      exact ⟨p, vs, e, .inl hS, hr⟩
    · obtain ⟨p, vs, e, hS, hr⟩ := hh.seeT (K := X.K) rx s
      exact ⟨p, vs, e, .inr hS, hr⟩
  obtain ⟨p, vs, rfl, hS, hr⟩ := h0
  rw [reps_keys hr] at hS
  refine ⟨p, xs.map g, rfl, hS, by rw [List.length_map]; exact hz, ?_, fun a ha ys p2 py hp2 => ?_⟩
  · rw [onceL_map kg.inj]
    intro j hj k hk
    obtain ⟨b, _, rfl⟩ := List.mem_map.mp hj
    obtain ⟨c, _, rfl⟩ := List.mem_map.mp hk
    rw [← kg.e, ← kg.e]
    exact hf.al b c
  · rw [onceL_map kg.inj] at py
    obtain ⟨zs, ez, pz⟩ : ∃ zs : List α, ys = zs.map g ∧ zs.Perm (onceL xs) := perm_of_map py.symm _ rfl
    subst ez
    have es : ((zs.map g).mergeSort leK) = (srt lt (onceL xs)).map g := by
      rw [← hf.srt_eq pz]
      refine (List.map_mergeSort (r := fun a b => !lt b a) (s := leK) (f := g) (l := zs) (fun a _ b _ => ?_)).symm
      show (!lt b a) = leD (kD (g a)) (kD (g b))
      rw [← kg.e, ← kg.e, hf.leD]
    rw [es]
    have em : (srt lt (onceL xs)).map f = ((srt lt (onceL xs)).map g).map kD := by
      rw [List.map_map]
      exact List.map_congr_left fun a _ => kg.e a
    refine hK _ _ G _ _ (q p2) (Same.refl G) ((hh.junk ha).newOwn hp2 (.lst ?_)) (.ref p2)
    rw [em]
    exact kv_reps _
theorem we_sortedSet {e : Expr} {p1 p2 q1 q2 : Pos} (bs : BltAt X "sorted" (.builtin "sorted")) (bt : BltAt X "set" (.type "set")) (hX : Std X) (he : starEach [e] X.env = (false, eval e X.env) :: starEach [] X.env) (hpl : (backTo q2 (starEach [] X.env)).any (·.1) = false) (h : WE X F e Γ fun d Γ1 => WSorted X F d Γ1 Q) :
    WE X F (.Call (.Name "sorted" p1) [.Call (.Name "set" p2) [e] [] q2] [] q1) Γ Q := fun G σ H hh R hR => by
  have i1 : PE X (.Call (.Name "set" p2) [e] [] q2) _ := pe_callTy (call_setK hX.calm) bt.gl bt.mg bt.bv (pa_cons (pe_U (X := X) (e := e)) pa_nil he) bt.hn bt.hdb he hpl
  have i2 : PE X (.Call (.Name "sorted" p1) [.Call (.Name "set" p2) [e] [] q2] [] q1) _ := pe_callB (call_sortedK hX.calm hX.hu) bs.gl bs.mg bs.bv (pa_cons i1 pa_nil) bs.hn bs.hdb
  refine tU_of i2 ?_
  refine h G σ H hh _ fun d Γ1 G1 v H1 q s1 h1 r1 => ?_
  obtain ⟨l, ks, ev, hS, hz, hal, fin⟩ := q G1 σ H1 v h1 r1 R fun d2 Γ2 G2 v2 H2 q2 s2 => hR d2 Γ2 G2 v2 H2 q2 (s1.trans s2)
  refine ⟨l, ks, ev, hS, hz, fun a ha => ?_⟩
  exact ⟨a, onceL ks, rfl, upd_same, hal, fun ys p py hp => fin a ha ys p py hp⟩
end
end DL

/-! The D layer, part 17: the methods of dicts. -/
namespace DL
open PySem PySem.Spec PyProof.Rows L2
/-- y is the word of the key k -/
class KeyAs (y : D) (k : outParam Key) : Prop where
  e : y = kD k
instance KeyAs.int {i : Int} : KeyAs (.int i) (.inl i) := ⟨rfl⟩
instance KeyAs.str {x : Str} : KeyAs (.str x) (.inr x) := ⟨rfl⟩
/-- y is the word of the tuple of keys ks -/
class KeyTAs (y : D) (ks : outParam (List Key)) : Prop where
  e : y = .tup (ks.map kD)
class KeysAs (ds : List D) (ks : outParam (List Key)) : Prop where
  e : ds = ks.map kD
instance KeysAs.nil : KeysAs [] [] := ⟨rfl⟩
instance KeysAs.cons {d : D} {ds : List D} {k : Key} {ks : List Key} [h : KeyAs d k] [t : KeysAs ds ks] : KeysAs (d :: ds) (k :: ks) := ⟨by rw [h.e, t.e]; rfl⟩
instance KeysAs.map {α : Type} {f : α → D} {g : α → Key} {xs : List α} [h : KeyEnc f g] : KeysAs (xs.map f) (xs.map g) := ⟨by rw [List.map_map]; exact List.map_congr_left fun a _ => h.e a⟩
instance KeyTAs.tup {ds : List D} {ks : List Key} [h : KeysAs ds ks] : KeyTAs (.tup ds) ks := ⟨by rw [h.e]⟩
section
variable {X : Cx} {F : Fr} {Γ : DL.Env} {sl : List (Option D)} {M R : Mem} {Q : D → DL.Env → Prop}
def IsDD (F : Fr) (d : D) (Γ : DL.Env) : Prop := ∀ G σ H v, Holds F G Γ σ H → Rep G v d → ∃ a, v = .ref a ∧ IsD H a
theorem isDD_K {d : D} {kds : List (Key × D)} [sd : SeeK M R d kds] : IsDD F d ⟨sl, M, R⟩ := fun G σ H v hh r => by
  obtain ⟨p, kvs, rfl, a, _⟩ := hh.seeK r sd.see
  exact ⟨p, rfl, .inl ⟨kvs, a⟩⟩
theorem isDD_T {d : D} {kds : List (List Key × D)} [sd : SeeDT M R d kds] : IsDD F d ⟨sl, M, R⟩ := fun G σ H v hh r => by
  obtain ⟨p, kvs, rfl, a, _⟩ := hh.seeDT r sd.see
  exact ⟨p, rfl, .inr ⟨kvs, a⟩⟩
/-- what d has at y -/
def GetD (F : Fr) (d y : D) (Γ : DL.Env) (Q : Option D → DL.Env → Prop) : Prop := ∃ r, Q r Γ ∧ ∀ G σ H v1 v2, Holds F G Γ σ H → Rep G v1 d → Rep G v2 y → ∃ a o, v1 = .ref a ∧ DGet H a v2 o ∧ ((o = none ∧ r = none) ∨ ∃ v x, o = some v ∧ r = some x ∧ Rep G v x)
theorem getD_K {Q : Option D → DL.Env → Prop} {d y : D} {kds : List (Key × D)} {k : Key} [sd : SeeK M R d kds] [ky : KeyAs y k] (q : Q (lookD kds k) ⟨sl, M, R⟩) : GetD F d y ⟨sl, M, R⟩ Q := ⟨_, q, fun G σ H v1 v2 hh r1 r2 => by
  obtain ⟨p, kvs, rfl, a, e1, e2⟩ := hh.seeK r1 sd.see
  rw [ky.e] at r2
  have e3 := r2.kD_inv
  exact ⟨p, valV kvs k, rfl, .inl ⟨kvs, k, a, e3, rfl⟩, look_rep k e1 e2⟩⟩
theorem getD_T {Q : Option D → DL.Env → Prop} {d y : D} {kds : List (List Key × D)} {k : List Key} [sd : SeeDT M R d kds] [ky : KeyTAs y k] (q : Q (lookD kds k) ⟨sl, M, R⟩) : GetD F d y ⟨sl, M, R⟩ Q := ⟨_, q, fun G σ H v1 v2 hh r1 r2 => by
  obtain ⟨p, kvs, rfl, a, e1, e2⟩ := hh.seeDT r1 sd.see
  rw [ky.e] at r2
  obtain ⟨b, vs, rfl, hb, hv⟩ := r2.tup_inv
  rw [hv.kD_inv] at hb
  exact ⟨p, valV kvs k, rfl, .inr ⟨kvs, k, b, a, rfl, hh.gh _ _ hb, rfl⟩, look_rep k e1 e2⟩⟩
theorem we_get1 {o e : Expr} {apos cpos : Pos} (hX : Std X) (m : M1 X o "get" apos e cpos) (h : WE X F o Γ fun d Γ1 => IsDD F d Γ1 ∧ WE X F e Γ1 fun y Γ2 => GetD F d y Γ2 fun r Γ3 => Q (r.getD .non) Γ3) : WE X F (.Call (.Attribute o "get" apos) [e] [] cpos) Γ Q := fun G σ H hh K hK => by
  refine tU_of (pe_dget1 hX.hu1 pe_U pe_U m) (h G σ H hh _ fun d Γ1 G1 v1 H1 ⟨q1, q2⟩ s1 h1 r1 => ?_)
  obtain ⟨a, rfl, ia⟩ := q1 G1 σ H1 v1 h1 r1
  refine ⟨a, rfl, ia, q2 G1 σ H1 h1 _ fun y Γ2 G2 v2 H2 ⟨r, q, g⟩ s2 h2 r2 => ?_⟩
  obtain ⟨a', o', e1, dg, rr⟩ := g G2 σ H2 _ v2 h2 (r1.mono s2) r2
  cases e1
  refine ⟨o', dg, ?_⟩
  rcases rr with ⟨rfl, rfl⟩ | ⟨v, x, rfl, rfl, rv⟩
  · exact hK _ _ G2 _ _ q (s1.trans s2) h2 .non
  · exact hK _ _ G2 _ _ q (s1.trans s2) h2 rv
theorem we_get2 {o e f : Expr} {apos cpos : Pos} (hX : Std X) (m : M2 X o "get" apos e f cpos) (h : WE X F o Γ fun d Γ1 => IsDD F d Γ1 ∧ WE X F e Γ1 fun y Γ2 => WE X F f Γ2 fun z Γ3 => GetD F d y Γ3 fun r Γ4 => Q (r.getD z) Γ4) : WE X F (.Call (.Attribute o "get" apos) [e, f] [] cpos) Γ Q := fun G σ H hh K hK => by
  refine tU_of (pe_dget2 hX.hu1 pe_U pe_U pe_U m) (h G σ H hh _ fun d Γ1 G1 v1 H1 ⟨q1, q2⟩ s1 h1 r1 => ?_)
  obtain ⟨a, rfl, ia⟩ := q1 G1 σ H1 v1 h1 r1
  refine ⟨a, rfl, ia, q2 G1 σ H1 h1 _ fun y Γ2 G2 v2 H2 q3 s2 h2 r2 => q3 G2 σ H2 h2 _ fun z Γ3 G3 v3 H3 ⟨r, q, g⟩ s3 h3 r3 => ?_⟩
  obtain ⟨a', o', e1, dg, rr⟩ := g G3 σ H3 _ v2 h3 (r1.mono (s2.trans s3)) (r2.mono s3)
  cases e1
  refine ⟨o', dg, ?_⟩
  rcases rr with ⟨rfl, rfl⟩ | ⟨v, x, rfl, rfl, rv⟩
  · exact hK _ _ G3 _ _ q ((s1.trans s2).trans s3) h3 r3
  · exact hK _ _ G3 _ _ q ((s1.trans s2).trans s3) h3 rv
/-- d.pop(k) -/
theorem drop_rep {G : Hp} (k : Key) : ∀ {kvs : List (Key × V)} {kds : List (Key × D)}, kvs.map (·.1) = kds.map (·.1) → Reps G (kvs.map (·.2)) (kds.map (·.2)) →
    (dropK kvs k).map (·.1) = (dropD kds k).map (·.1) ∧ Reps G ((dropK kvs k).map (·.2)) ((dropD kds k).map (·.2))
  | [], [], _, _ => ⟨rfl, Reps.nil⟩
  | [], _ :: _, h, _ => by simp at h
  | _ :: _, [], h, _ => by simp at h
  | (a, w) :: kvs, (b, e) :: kds, h, r => by
    have h1 : a = b := by simpa using (List.cons.inj h).1
    subst h1
    have rh : Rep G w e := Reps.head (vs := kvs.map Prod.snd) (ds := kds.map Prod.snd) r
    have rt : Reps G (kvs.map (·.2)) (kds.map (·.2)) := Reps.tail (v := w) (d := e) r
    obtain ⟨i1, i2⟩ := drop_rep k (List.cons.inj h).2 rt
    by_cases ek : a = k
    · have f1 : dropK ((a, w) :: kvs) k = dropK kvs k := by unfold dropK; rw [List.filter_cons_of_neg (by simp [ek])]
      have f2 : dropD ((a, e) :: kds) k = dropD kds k := by unfold dropD; rw [List.filter_cons_of_neg (by simp [ek])]
      rw [f1, f2]
      exact ⟨i1, i2⟩
    · have f1 : dropK ((a, w) :: kvs) k = (a, w) :: dropK kvs k := by unfold dropK; rw [List.filter_cons_of_pos (by simp [ek])]
      have f2 : dropD ((a, e) :: kds) k = (a, e) :: dropD kds k := by unfold dropD; rw [List.filter_cons_of_pos (by simp [ek])]
      rw [f1, f2]
      exact ⟨by rw [List.map_cons, List.map_cons, i1], Reps.cons rh i2⟩
def PopD (F : Fr) (d y : D) (Γ : DL.Env) (Q : D → DL.Env → Prop) : Prop := ∃ (p : Addr) (kds : List (Key × D)) (k : Key) (x : D) (j : Nat), d = .ref p ∧ Γ.M[j]? = some (p, .dK kds) ∧ y = kD k ∧ lookD kds k = some x ∧ Q x ⟨Γ.sl, Γ.M.set j (p, .dK (dropD kds k)), Γ.R⟩
theorem popD_go {p : Addr} {y x : D} {kds : List (Key × D)} {k : Key} {j : Nat} {M' : Mem} [a : At M p (.dK kds) j] [ky : KeyAs y k] [t : SetM M j (p, .dK (dropD kds k)) M'] (hx : lookD kds k = some x) (q : Q x ⟨sl, M', R⟩) : PopD F (.ref p) y ⟨sl, M, R⟩ Q :=
  ⟨p, kds, k, x, j, rfl, a.e, ky.e, hx, by rw [t.e] at q; exact q⟩
theorem we_pop1 {o e : Expr} {apos cpos : Pos} (m : M1 X o "pop" apos e cpos) (h : WE X F o Γ fun d Γ1 => IsDD F d Γ1 ∧ WE X F e Γ1 fun y Γ2 => PopD F d y Γ2 Q) : WE X F (.Call (.Attribute o "pop" apos) [e] [] cpos) Γ Q := fun G σ H hh K hK => by
  refine tU_of (pe_dpop1 pe_U pe_U m) (h G σ H hh _ fun d Γ1 G1 v1 H1 ⟨q1, q2⟩ s1 h1 r1 => ?_)
  obtain ⟨a, rfl, ia⟩ := q1 G1 σ H1 v1 h1 r1
  refine ⟨a, rfl, ia, q2 G1 σ H1 h1 _ fun y Γ2 G2 v2 H2 ⟨p, kds, k, x, j, e1, e2, e3, e4, q⟩ s2 h2 r2 => ?_⟩
  subst e1
  cases r1
  subst e3
  obtain ⟨_, _, u, hu, hs⟩ := h2.mem.at_ _ (List.mem_of_getElem? e2)
  obtain ⟨kvs, rfl, f1, f2⟩ := hs.dK_inv
  rcases look_rep k f1 f2 with ⟨_, z⟩ | ⟨v, x', g1, g2, rv⟩
  · rw [e4] at z; cases z
  · rw [e4] at g2; cases g2
    obtain ⟨d1, d2⟩ := drop_rep k f1 f2
    exact ⟨kvs, k, v, hu, r2.kD_inv, g1, hK _ _ G2 _ _ q (s1.trans s2) (h2.write e2 (.dK d1 d2)) rv⟩
end
end DL

/-! The D layer, part 18: texts. -/
namespace DL
open PySem PySem.Spec PyProof.Rows L2
section
variable {X : Cx} {F : Fr} {Γ : DL.Env} {sl : List (Option D)} {M R : Mem} {Q : D → DL.Env → Prop} {z w : Str} {ea eb : Expr}
/-- a sign of a text, whichever it is -/
theorem wx_strN {i : Int} (hz : z.length ≤ sizeLine) (h0 : 0 ≤ i) (h1 : i < z.length) (q : ∀ c : Nat, z.cps.toList[i.toNat]? = some c → Q (.str ⟨#[c]⟩) Γ) : WX X F ea eb (.str z) (.int i) Γ Q := by
  obtain ⟨c, e1, e2⟩ := atI_in (xs := z.cps.toList) h0 (by
    rw [Array.length_toList]; exact h1)
  exact wx_str hz e1 (q c e2)
theorem wsl_txt {lo hi : Option Int} (hz : z.length ≤ sizeLine) (q : Q (.str (Txt.slice z lo hi)) Γ) : WSl X F (.str z) lo hi Γ Q := wsl_of C8.sl_txt fun G σ H x hh rx K hK => ⟨z, rx.str_inv, hz, hK.here hh q (.str _)⟩
theorem wm_join {d : D} {ys : List Str} [sd : SeeQ M R d (ys.map D.str)] (hz : (ys.map (·.length)).sum + ys.length * z.length ≤ 16777216) (q : Q (.str (Txt.join z ys)) ⟨sl, M, R⟩) : WM X F "str.join" (.str z) [d] ⟨sl, M, R⟩ Q := wm_of mt_join fun G σ H x xs hh r1 r2 K hK => by
  obtain ⟨v, rfl, r⟩ := r2.one
  rcases sd.see with s | s
  · obtain ⟨p, vs, rfl, hS, hr⟩ := hh.seeL (K := X.K) r s
    rw [reps_strs hr] at hS
    exact ⟨z, p, ys, r1.str_inv, rfl, .inl hS, hz, hK.here hh q (.str _)⟩
  · obtain ⟨p, vs, rfl, hS, hr⟩ := hh.seeT (K := X.K) r s
    rw [reps_strs hr] at hS
    exact ⟨z, p, ys, r1.str_inv, rfl, .inr hS, hz, hK.here hh q (.str _)⟩
theorem wm_sindex {i : Nat} {rest : List Nat} (ho : Builtin.Str.occurrences z w 0 z.length 1 = i :: rest) (q : Q (.int (i : Nat)) Γ) : WM X F "str.index" (.str z) [.str w] Γ Q := wm_of mt_sindex fun G σ H x xs hh r1 r2 K hK => by
  obtain ⟨v, rfl, r⟩ := r2.one
  exact ⟨z, w, i, rest, r1.str_inv, by rw [r.str_inv], ho, hK.here hh q (.int _)⟩
theorem wm_starts (q : Q (.bl (Txt.startswith z w)) Γ) : WM X F "str.startswith" (.str z) [.str w] Γ Q := wm_of mt_startswith fun G σ H x xs hh r1 r2 K hK => by
  obtain ⟨v, rfl, r⟩ := r2.one
  exact ⟨z, w, r1.str_inv, by rw [r.str_inv], hK.here hh q (.bl _)⟩
theorem wo_inS (q : Q (.bl (!(Builtin.Str.occurrences w z 0 w.length 1).isEmpty)) Γ) : WO X F (compareOp .In) (.str z) (.str w) Γ Q := wo_of op_in_str fun G σ H x y hh r1 r2 K hK => ⟨z, w, r1.str_inv, r2.str_inv, hK.here hh q (.bl _)⟩
theorem wo_ninS (q : Q (.bl (!(!(Builtin.Str.occurrences w z 0 w.length 1).isEmpty))) Γ) : WO X F (compareOp .NotIn) (.str z) (.str w) Γ Q := wo_of op_notin_str fun G σ H x y hh r1 r2 K hK => ⟨z, w, r1.str_inv, r2.str_inv, hK.here hh q (.bl _)⟩
variable {K : List D → (DL.Env → Prop) → DL.Env → Prop} {tg : Expr}
/-- for c in text -/
theorem wiv_str (h : K (z.cps.toList.map fun c => .str ⟨#[c]⟩) (fun _ => True) Γ) : WIV X F tg (.str z) Γ K := fun G σ H x hh r Q hQ pins s v I rv => by
  rw [r.str_inv] at rv
  obtain ⟨t, rfl⟩ := rv
  have it : ItSem F G (Its z) (z.cps.toList.map fun c => D.str ⟨#[c]⟩) fun _ => True := fun Γ' G' σ' H' sg h' _ => by
    refine ⟨by show z.cps.size ≤ _; rw [List.length_map, Array.length_toList]; exact Nat.le_refl _, fun i y hy => ?_⟩
    rw [List.getElem?_map] at hy
    obtain ⟨c, e1, rfl⟩ := Option.map_eq_some_iff.mp hy
    have e2 : z.cps[i]? = some c := by simpa using e1
    refine ⟨(Array.getElem?_eq_some_iff.mp e2).1, fun u H'' ⟨q1, c2, q2, q3⟩ => ⟨G', Same.refl G', by rw [q1]; exact h', ?_⟩⟩
    rw [e2] at q2
    cases q2
    rw [q3]; exact .str _
  cases ha : z.cps.all (· < 128)
  · exact wpAny_pyIter_wide ha (pi_one (tk := s.toks) I _ (turn_str _ z t "str_iterator" (.inr rfl)) ⟨_, Heap.get?_push_size _ rfl, rfl, rfl⟩ (hQ _ _ _ G H _ h (Same.refl G) hh it))
  · exact wpAny_pyIter_ascii ha (pi_one (tk := s.toks) I _ (turn_str _ z t "str_ascii_iterator" (.inl rfl)) ⟨_, Heap.get?_push_size _ rfl, rfl, rfl⟩ (hQ _ _ _ G H _ h (Same.refl G) hh it))
end
end DL

/-! The D layer, part 19: sorted(d), d a dict of ints or texts. -/
namespace DL
open PySem PySem.Spec PyProof.Rows L2 PySem.W
section
variable {X : Cx} {F : Fr} {sl : List (Option D)} {M R : Mem} {Q : D → DL.Env → Prop}
theorem each_at {P : Program} {w : World} : ∀ {us : List Value} {ks : List Key}, us.length = ks.length → (∀ (i : Nat) v, us[i]? = some v → ∃ k, ks[i]? = some k ∧ (mixKind P w).is k v = true) → EachIs (fun v k => (mixKind P w).is k v = true) us ks
  | [], [], _, _ => .nil
  | [], _ :: _, e, _ => by cases e
  | _ :: _, [], e, _ => by cases e
  | u :: us, k :: ks, e, h => by
    obtain ⟨k', e1, e2⟩ := h 0 u rfl
    cases e1
    exact .cons e2 (each_at (by simpa using e) fun i v hv => h (i + 1) v (by simpa using hv))
theorem call_sortedDk (calm : X.calm = true) (hu : X.A.units + 64 < cLine) : CallR X (.builtin "sorted") (fun vs H Q => ∃ (a : Addr) (kvs : List (Key × V)), vs = [.ref a] ∧ Rd H a (.dK kvs) ∧ (∀ j ∈ kvs, ∀ k ∈ kvs, alike (dat (kD j.1)) (dat (kD k.1)) = true) ∧ ∀ p : Addr, H p = none → Q (.ref p) (upd H p (.lst (((kvs.map (·.1)).mergeSort leK).map kV)))) := by
  intro pins s σ H xs us Q I r q
  obtain ⟨a, kvs, rfl, hd, hal, q⟩ := q
  rw [Vals.ref1 r]
  obtain ⟨z, lo, vs, rel, dd⟩ := dk_rd I.hok hd
  obtain ⟨ep, hat⟩ := dd.dictAt
  have ek : vs.map (·.1) = kvs.map (·.1) := rel.keys.symm
  have len : vs.length = kvs.length := by have := congrArg List.length ek; simpa using this
  have small : vs.length ≤ sizeLine := len ▸ z
  refine Calls.call_function_entry PyProof.Rows.kind_sorted PyProof.Rows.plain_sorted PyProof.Rows.entry_sorted (PyProof.Rows.args_sorted1 _) ?_
  unfold Builtin.«sorted»
  refine wpAny_bind (m := checkCount "sorted" 1 1 _) (wpAny_pure (wpAny_bind (kdu_collect (A := X.A.in1) (kdl_dict (knd := mixKind X.prog X.w) (kvs := vs) (ep := ep) lo) (I.ok.hd calm) hat small fun h1 tk acc old got => ?_)))
  have len2 : acc.toList.length = (kvs.map (·.1)).length := by rw [Array.length_toList, got.1, len, List.length_map]
  have ey : EachIs (fun v k => (mixKind X.prog X.w).is k v = true) acc.toList (kvs.map (·.1)) := each_at len2 fun i v hv => by
    obtain ⟨k, x, e1, e2⟩ := got.2 i v (by rw [← Array.getElem?_toList]; exact hv)
    refine ⟨k, ?_, e2⟩
    rw [← ek, List.getElem?_map, e1]; rfl
  have I1 : Inv X pins σ H { s with heap := h1, toks := tk } := I.kept old
  have small2 : acc.toList.length ≤ sizeLine := by rw [len2, List.length_map, ← len]; exact small
  refine wpAny_bind (wpAny_newList ?_ small2)
  have new : (h1.push (seqObj "list" acc.toList.toArray 0)).get? h1.objs.size = some (seqObj "list" acc.toList.toArray 0) := Heap.get?_push_size _ rfl
  show wpAny _ _ _ _ _ { s with heap := h1.push (seqObj "list" acc.toList.toArray 0), toks := tk }
  refine wpAny_bind (wpAny_holding (thn (Q := fun v s2 => ∃ out : List Value, v = .none ∧ EachIs (fun v k => (mixKind X.prog X.w).is k v = true) out ((kvs.map (·.1)).mergeSort leK) ∧ s2 = { s with heap := PyProof.Rows.sortedHeap (h1.push (seqObj "list" acc.toList.toArray 0)) h1.objs.size acc.toList out.toArray, toks := tk }) ?_ fun v s2 ⟨out, e1, e2, e3⟩ => ?_))
  · refine list_sort_data (s := { s with heap := h1.push (seqObj "list" acc.toList.toArray 0), toks := tk }) (enc := fun k => dat (kD k)) (R := fun v k => (mixKind X.prog X.w).is k v = true) new ey (each_sel ey fun v k e => ?_) ?_ ?_ (by rw [← len2]; exact small2) (fun k _ => ?_) fun out _ eo => ⟨out, rfl, eo, rfl⟩
    · rcases keyIs_shape e with ⟨i, t, rfl, rfl⟩ | ⟨x, t, rfl, rfl⟩
      · exact ⟨[], .int i t, by simp⟩
      · exact ⟨[], .str x t, by simp⟩
    · intro d hd d2 hd2
      rw [List.map_map] at hd hd2
      obtain ⟨j, hj, rfl⟩ := List.mem_map.mp hd
      obtain ⟨k, hk, rfl⟩ := List.mem_map.mp hd2
      exact hal j hj k hk
    · refine .inr fun d hd => ?_
      obtain ⟨j, _, rfl⟩ := List.mem_map.mp hd
      cases j with
      | inl i => exact ⟨by simp [kD, dat], fun xs => by simp [kD, dat]⟩
      | inr x => exact ⟨by simp [kD, dat], fun xs => by simp [kD, dat]⟩
    · have : (dat (kD k)).depth = 0 := by cases k <;> rfl
      rw [this]
      show X.A.units + 1 + 1 + 0 < cLine
      omega
  · subst e1; subst e3
    obtain ⟨c, hc⟩ := PyProof.Rows.sortedHeap_at (vs := acc.toList) (out := out.toArray) new
    have vals : ∀ {us : List Value} {zs : List Key}, EachIs (fun v k => (mixKind X.prog X.w).is k v = true) us zs → Vals (zs.map kV) us := by
      intro us zs e
      induction e with
      | nil => exact .nil
      | cons h _ ih => exact .cons (keyIs_rel h) ih
    have fit : (((kvs.map (·.1)).mergeSort leK).map kV).length ≤ sizeLine := by
      rw [List.length_map, List.length_mergeSort, List.length_map]; exact z
    refine wpAny_pure ⟨_, rfl, .ref h1.objs.size, upd H h1.objs.size (.lst (((kvs.map (·.1)).mergeSort leK).map kV)), I1.laid (t' := tk) (fun b u e => ?_) (Nat.le_refl _) ⟨fit, out, c, vals e2, by simpa using hc⟩, rfl, q _ (I1.hok.fresh (Nat.le_refl _))⟩
    have lb : b < h1.objs.size := Heap.lt_size e
    rw [PyProof.Rows.sortedHeap_old (Nat.ne_of_lt lb) (by rw [size_push']; exact Nat.lt_succ_of_lt lb)]
    exact Heap.get?_push_of_some _ e
/-- sorted(d): the keys, by the Lean values (hk tells how the keys are encoded) -/
theorem wc_sortedK {α : Type} {f : α → D} {lt : α → α → Bool} {n : Nat} {g : α → Key} {d : D} {kds : List (Key × D)} {xs : List α} [sd : SeeK M R d kds] [hf : DOrd f lt n] [kg : KeyEnc f g] (hX : Std X) (hk : kds.map (·.1) = xs.map g)
    (q : ∀ p, Q (.ref p) ⟨sl, (p, .lst ((srt lt xs).map f)) :: M, R⟩) : WC X F (.builtin "sorted") [d] ⟨sl, M, R⟩ Q := wc_of (call_sortedDk hX.calm hX.hu) fun G σ H vs hh rr K hK => by
  obtain ⟨v, rfl, r⟩ := rr.one
  obtain ⟨p, kvs, rfl, hd, e1, e2⟩ := hh.seeK r sd.see
  have ek : kvs.map (·.1) = xs.map g := e1.trans hk
  refine ⟨p, kvs, rfl, hd, fun j hj k hk2 => ?_, fun a ha => ?_⟩
  · have h1 : j.1 ∈ xs.map g := ek ▸ List.mem_map_of_mem hj
    have h2 : k.1 ∈ xs.map g := ek ▸ List.mem_map_of_mem hk2
    obtain ⟨b, _, e3⟩ := List.mem_map.mp h1
    obtain ⟨c, _, e4⟩ := List.mem_map.mp h2
    rw [← e3, ← e4, ← kg.e, ← kg.e]
    exact hf.al b c
  · have es : ((kvs.map (·.1)).mergeSort leK) = (srt lt xs).map g := by
      rw [ek]
      refine (List.map_mergeSort (r := fun a b => !lt b a) (s := leK) (f := g) (l := xs) (fun a _ b _ => ?_)).symm
      show (!lt b a) = leD (kD (g a)) (kD (g b))
      rw [← kg.e, ← kg.e, hf.leD]
    rw [es]
    have em : (srt lt xs).map f = ((srt lt xs).map g).map kD := by
      rw [List.map_map]
      exact List.map_congr_left fun a _ => kg.e a
    refine hK _ _ G _ _ (q a) (Same.refl G) (hh.newOwn ha (.lst ?_)) (.ref a)
    rw [em]
    exact kv_reps _
end
end DL

/-! The D layer, part 20: small helps. -/
namespace DL
open PySem PySem.Spec PyProof.Rows L2
/-- the side of ws_setLc' (an assignment of a comprehension): (nm.swaps (by decide +kernel)) -/
theorem Nm.swaps {X : Cx} {N : List Str} {sc : Scope} (nm : Nm X N sc) {elt : Expr} {gs : List Comprehension} {scope : Scope} {pos py : Pos} {y : Str} {line : Nat} (h : ((if sc.kind.isAnnotationScope then ScopeKind.function else sc.kind) == .function && sc.names.lookup y == some .local && py.line == pos.line && !(scope.names.any fun (n, k) => n == y && (k == .local || k == .cell))) = true) :
    swapsWith (.ListComp elt gs scope pos) (some (.Name y py)) line X.env = pure true := by
  have e : X.env.scope = sc := nm.sc
  subst e
  exact congrArg pure h
end DL

set_option maxHeartbeats 2000000
/-! The D layer, part 21: set comprehensions of ints and texts; sorted of them. -/
namespace DL
open PySem PySem.Spec PyProof.Rows L2

/-! ### a thing that stands beside the environment -/
section
variable {F : Fr} {G : Hp} {Γ : DL.Env} {σ : L2.St} {H : Hp} {D : Addr} {o o' : HO}
theorem Holds.beside (h : Holds F G Γ σ H) (hD : H D = none) : Holds ⟨upd F.B D o, F.G0⟩ G Γ σ (upd H D o) := by
  have hB : F.B D = none := h.bh.free hD
  have hG : G D = none := h.gh.free hD
  have h0 : F.G0 D = none := h.gb.free hB
  have up : ∀ {A : Hp} {b : Addr} {u : HO}, A D = none → A b = some u → upd A D o b = some u := fun {A b u} z e => by
    rw [upd_ne (ne_of_none e z)]; exact e
  refine ⟨h.g0, fun b u e => ?_, fun b u e => ?_, fun b u e => up hB (h.gb _ _ e), fun b u e => ?_, h.len, h.sl, ⟨h.mem.nd, fun q hq => ?_⟩, fun q hq => ?_⟩
  · rw [upd_ne (ne_of_none e hG)]; exact h.gh _ _ e
  · by_cases hb : b = D
    · subst hb
      have e2 : upd F.B b o b = some u := e
      rw [upd_same] at e2 ⊢; exact e2
    · have e2 : upd F.B D o b = some u := e
      rw [upd_ne hb] at e2 ⊢; exact h.bh _ _ e2
  · rcases h.nw b u e with z | z | z
    · exact .inl z
    · refine .inr (.inl ?_)
      show upd F.B D o b = none
      rw [upd_ne (ne_of_none e hG)]; exact z
    · exact .inr (.inr z)
  · obtain ⟨a, b, u, c, d⟩ := h.mem.at_ q hq
    have ne : q.1 ≠ D := ne_of_none c hD
    refine ⟨?_, b, u, ?_, d⟩
    · show upd F.B D o q.1 = none
      rw [upd_ne ne]; exact a
    · rw [upd_ne ne]; exact c
  · obtain ⟨u, a, b⟩ := h.rd q hq
    refine ⟨u, ?_, b⟩
    rcases a with a | ⟨z, a⟩
    · exact .inl (up hB a)
    · exact .inr ⟨z, up hB a⟩
theorem Holds.besideG (hB : F.B D = none) (hg : Same F.G0 F.B) (ho : ∀ vs, o ≠ .tup vs) (h : Holds ⟨upd F.B D o, F.G0⟩ G Γ σ H) : G D = none ∧ H D = some o := by
  have hH : H D = some o := h.bh _ _ (by show upd F.B D o D = some o; exact upd_same)
  refine ⟨?_, hH⟩
  cases e : G D with
  | none => rfl
  | some u =>
    rcases h.nw _ _ e with z | z | ⟨vs, z⟩
    · have z2 : F.G0 D = some u := z
      rw [hg.free hB] at z2; cases z2
    · have z2 : upd F.B D o D = none := z
      rw [upd_same] at z2; cases z2
    · have e2 := h.gh _ _ e
      rw [hH, z] at e2
      cases e2
      exact absurd rfl (ho vs)
theorem Holds.besideTo (hB : F.B D = none) (hg : Same F.G0 F.B) (hR : ∀ q ∈ Γ.R, q.1 ≠ D) (ho : ∀ vs, o ≠ .tup vs) (h : Holds ⟨upd F.B D o, F.G0⟩ G Γ σ H) : Holds ⟨upd F.B D o', F.G0⟩ G Γ σ (upd H D o') := by
  obtain ⟨hG, hH⟩ := h.besideG hB hg ho
  have tr : ∀ {b : Addr} {u : HO}, b ≠ D → upd F.B D o b = some u → upd F.B D o' b = some u := fun {b u} ne e => by
    rw [upd_ne ne] at e ⊢; exact e
  refine ⟨h.g0, fun b u e => ?_, fun b u e => ?_, fun b u e => ?_, fun b u e => ?_, h.len, h.sl, ⟨h.mem.nd, fun q hq => ?_⟩, fun q hq => ?_⟩
  · rw [upd_ne (ne_of_none e hG)]; exact h.gh _ _ e
  · by_cases hb : b = D
    · subst hb
      have e2 : upd F.B b o' b = some u := e
      rw [upd_same] at e2 ⊢; exact e2
    · have e2 : upd F.B D o' b = some u := e
      rw [upd_ne hb] at e2 ⊢
      refine h.bh _ _ ?_
      show upd F.B D o b = some u
      rw [upd_ne hb]; exact e2
  · have ne : b ≠ D := ne_of_none e (hg.free hB)
    show upd F.B D o' b = some u
    rw [upd_ne ne]; exact hg _ _ e
  · rcases h.nw b u e with z | z | z
    · exact .inl z
    · have z2 : upd F.B D o b = none := z
      have ne : b ≠ D := ne_of_none e hG
      rw [upd_ne ne] at z2
      refine .inr (.inl ?_)
      show upd F.B D o' b = none
      rw [upd_ne ne]; exact z2
    · exact .inr (.inr z)
  · obtain ⟨a, b, u, c, d⟩ := h.mem.at_ q hq
    have a2 : upd F.B D o q.1 = none := a
    have ne : q.1 ≠ D := fun z => by rw [z, upd_same] at a2; cases a2
    rw [upd_ne ne] at a2
    refine ⟨?_, b, u, ?_, d⟩
    · show upd F.B D o' q.1 = none
      rw [upd_ne ne]; exact a2
    · rw [upd_ne ne]; exact c
  · obtain ⟨u, a, b⟩ := h.rd q hq
    refine ⟨u, ?_, b⟩
    rcases a with a | ⟨z, a⟩
    · exact .inl (tr (hR q hq) a)
    · exact .inr ⟨z, tr (hR q hq) a⟩
theorem Holds.besideOff (hB : F.B D = none) (hg : Same F.G0 F.B) (hR : ∀ q ∈ Γ.R, q.1 ≠ D) (h : Holds ⟨upd F.B D o, F.G0⟩ G Γ σ H) : Holds F G Γ σ H := by
  have tr : ∀ {b : Addr} {u : HO}, b ≠ D → upd F.B D o b = some u → F.B b = some u := fun {b u} ne e => by
    rw [upd_ne ne] at e; exact e
  refine ⟨h.g0, h.gh, fun b u e => ?_, hg, fun b u e => ?_, h.len, h.sl, ⟨h.mem.nd, fun q hq => ?_⟩, fun q hq => ?_⟩
  · refine h.bh _ _ ?_
    show upd F.B D o b = some u
    rw [upd_ne (ne_of_none e hB)]; exact e
  · rcases h.nw b u e with z | z | z
    · exact .inl z
    · refine .inr (.inl ?_)
      have z2 : upd F.B D o b = none := z
      by_cases hb : b = D
      · rw [hb]; exact hB
      · rw [upd_ne hb] at z2; exact z2
    · exact .inr (.inr z)
  · obtain ⟨a, r⟩ := h.mem.at_ q hq
    refine ⟨?_, r⟩
    have a2 : upd F.B D o q.1 = none := a
    by_cases hb : q.1 = D
    · rw [hb]; exact hB
    · rw [upd_ne hb] at a2; exact a2
  · obtain ⟨u, a, b⟩ := h.rd q hq
    refine ⟨u, ?_, b⟩
    rcases a with a | ⟨z, a⟩
    · exact .inl (tr (hR q hq) a)
    · exact .inr ⟨z, tr (hR q hq) a⟩
end

/-! ### set.add -/
section
variable {X : Cx}
theorem stO_ok {P : Program} {w : World} {H : Hp} {h : Heap} {a : Addr} {ks : List Key} (m : KSet (mixKind P w) h a ks) : ObjOk P w H h a (stO P w a ks) := by
  refine ⟨m, ?_, fun h1 h2 m e => m.stay e⟩
  obtain ⟨⟨o, _, _, _, ⟨e, _⟩, _⟩, _⟩ := m
  exact ⟨o, e⟩
theorem stO_nt (P : Program) (w : World) (a : Addr) (ks : List Key) (vs : List V) : stO P w a ks ≠ .tup vs := fun z => by cases z
theorem add_key {pins : List (Addr × Obj)} {σ : L2.St} {H : Hp} {s : Shared} {E : Value → Shared → Prop} {D : Addr} {ks : List Key} {k : Key} {v : Value} {Q : Value → Shared → Prop} (I : Inv X pins σ H s) (hD : H D = some (stO X.prog X.w D ks)) (rv : RelV (kV k) v) (room : ks.length + 1 < scanBound)
    (h : ∀ s', Inv X pins σ (upd H D (stO X.prog X.w D (addK k ks))) s' → Q .none s') : wpAny (model X.prog X.w) X.A (call (.builtin "set.add") [.ref D, v]) Q E s := by
  have m : KSet (mixKind X.prog X.w) s.heap D ks := (I.hok D _ hD).1
  have ik : (mixKind X.prog X.w).is k v = true ∧ v.scannable = true := by
    cases k with
    | inl j => obtain ⟨t, rfl⟩ := rv; exact ⟨mixKind_int _ _ j t, rfl⟩
    | inr x => obtain ⟨t, rfl⟩ := rv; exact ⟨mixKind_str _ _ x t, rfl⟩
  have ty : s.TypeIs (.ref D) "set" := by
    obtain ⟨⟨o, _, _, _, ⟨e, x, _⟩, _⟩, _⟩ := m
    exact ⟨o, e, x.1⟩
  refine wpAny_call_entry F.slot_set_add ty F.entry_set_add ?_ (F.args_set_add_2 _ _)
  simp only [Builtin.«set.add», Builtin.Frozenset.oneOther, List.isEmpty_nil, bind_assoc]
  simp only [Builtin.Frozenset.addrOf, setAdd]
  refine wpAny_bind (wpAny_pure ?_); try dsimp only
  refine wpAny_bind (wpAny_pure ?_); try dsimp only
  refine wpAny_bind (wpAny_holding (wpAny_bind ((mixKind X.prog X.w).pyHash ik.1 ?_)))
  refine setM_add (s := { s with toks := s.toks + 1 }) m ik.1 ik.2 room fun hx sb m2 => ?_
  show wpAny _ _ (ret Value.none) _ _ _
  refine wpAny_pure ⟨_, rfl, h _ ?_⟩
  refine I.write (e := D) (t' := s.toks + 1) (by rw [hD]; trivial) (.inl rfl) (fun b u hb hu => (sb.2 b hb).trans hu) ?_ (stO_ok m2)
  obtain ⟨⟨o, _, _, _, ⟨e, _⟩, _⟩, _⟩ := m2
  exact ⟨o, e⟩
end
/-! ### the comprehension -/
section
variable {X : Cx}
/-- {elt for tg in iter if ..}: what it is asked, D the new set -/
def tSk (P : Program) (w : World) (wi : TI) (g : TG) (tt : TT) (te : TE) (vs : List Nat) : TE := fun σ H Q => wi σ H fun J H1 => ∀ D, H1 D = none →
  ∃ W : Nat → Nat → Hp → Prop, (∃ m, W 0 m (upd H1 D (stO P w D []))) ∧ ∀ i m H, W i m H →
    (J.stop i H ∧ Q (.ref D) H) ∨ (J.go i H ∧ ∃ Nx : Hp → Prop, (∀ H', Nx H' → ∃ m', m' < m ∧ W (i + 1) m' H') ∧
      ∀ x H', J.yld i H x H' → g x (wipe σ vs) H' fun σ2 H2 => wipe σ2 vs = wipe σ vs ∧ tt σ2 H2 fun b H3 =>
        if b = true then te σ2 H3 fun y H4 => ∃ (k : Key) (ks : List Key), y = kV k ∧ H4 D = some (stO P w D ks) ∧ ks.length + 1 < scanBound ∧ Nx (upd H4 D (stO P w D (addK k ks))) else Nx H3)
theorem pe_sk {elt tg iter : Expr} {ifs : List Expr} {scope : Scope} {own : List (PySem.Str × Nat)} {pos : Pos} {wi : TI} {g : TG} {tt : TT} {te : TE} (calm : X.calm = true) (nodup : X.N.Nodup) (hi : PI X tg iter wi) (ok : BlkOk X.N X.env.scope scope own)
    (gs : ∀ (z : Shared) (Hz : Hp) (C : Addr) (cl : List (PySem.Str × Addr)) (fp : List Addr), PG (X.blk z Hz scope (compEnvC scope cl C X.env) fp) tg g)
    (ts : ∀ (z : Shared) (Hz : Hp) (C : Addr) (cl : List (PySem.Str × Addr)) (fp : List Addr), PTs (X.blk z Hz scope (compEnvC scope cl C X.env) fp) ifs tt)
    (es : ∀ (z : Shared) (Hz : Hp) (C : Addr) (cl : List (PySem.Str × Addr)) (fp : List Addr), PE (X.blk z Hz scope (compEnvC scope cl C X.env) fp) elt te)
    (plain : ∀ x, foldedSetIterable iter X.env x = pure x) : PE X (.SetComp elt [⟨tg, iter, ifs, 0⟩] scope pos) (tSk X.prog X.w wi g tt te (own.map (·.2))) := by
  refine ⟨fun pins s σ H Q I asked => ?_⟩
  rw [PpSet.eval_SetComp]
  have cells : ∀ y ∈ scope.names, y.2 = .free → ∃ c, X.env.cells.lookup y.1 = some c := fun y hy e => (ok.free y hy e).elim (fun q => I.ok.has _ (.inl q)) fun q => I.ok.has _ (.inr q)
  refine wpAny_comprehension_free rfl plain (closure_ok cells) ok.kind (fun y hy e => by rw [ok.uniq y hy, e]) ?_
  refine thn (hi.run pins s σ H _ I asked) fun xv s1 hx => thn hx fun itv s2 got => ?_
  obtain ⟨it, fp, tn, J, H2, e, I2, T, st2, f2, q⟩ := got
  subst e
  refine PpSet.newSet_ok (newEnv_comp ?_)
  -- the set that is filled
  obtain ⟨D, hD⟩ : ∃ D, s2.heap.objs.size = D := ⟨_, rfl⟩
  rw [hD]
  obtain ⟨W, ⟨m0, w0⟩, turn⟩ := q D (I2.hok.fresh (Nat.le_of_eq hD))
  obtain ⟨s3, hs3⟩ : ∃ z : Shared, z = { s2 with heap := s2.heap.push (freshO X.w) } := ⟨_, rfl⟩
  have keep3 : ∀ b o, s2.heap.get? b = some o → s3.heap.get? b = some o := fun b o e => by rw [hs3]; exact Heap.get?_push_of_some _ e
  have I3 : Inv X pins σ (upd H2 D (stO X.prog X.w D [])) s3 := by
    rw [hs3]
    exact I2.laid (t' := s2.toks) (fun b o e => Heap.get?_push_of_some _ e) (Nat.le_of_eq hD) (stO_ok (kset_fresh (by rw [← hD]; exact Heap.get?_push_size _ rfl)))
  obtain ⟨H3, hH3⟩ : ∃ Z : Hp, Z = upd H2 D (stO X.prog X.w D []) := ⟨_, rfl⟩
  rw [← hH3] at I3 w0
  have small : ∀ b ∈ fp, b < s2.heap.objs.size := fun b hb => by
    obtain ⟨o, z, _⟩ := T.obj _ _ st2 b hb
    exact Heap.lt_size z
  have f3 : ∀ b ∈ fp, FpOk X pins H3 b ∧ b < s3.heap.objs.size := fun b hb => by
    refine ⟨⟨?_, (f2 b hb).2⟩, ?_⟩
    · rw [hH3, upd_ne (by rw [← hD]; exact Nat.ne_of_lt (small b hb))]; exact (f2 b hb).1
    · rw [hs3, Heap.size_push]; exact Nat.lt_succ_of_lt (small b hb)
  have st3 : tn 0 s3.heap := T.keep _ _ _ st2 fun b _ o e => keep3 b o e
  have I4 := block_start I3 ok nodup f3
  obtain ⟨clo, hclo⟩ : ∃ c, c = cellsFrom (s3.heap.objs.size + 1) scope.names (cloFrom X.env.cells scope.names []) := ⟨_, rfl⟩
  rw [← hclo] at I4
  have pg := gs s3 H3 s3.heap.objs.size clo fp
  have pt := ts s3 H3 s3.heap.objs.size clo fp
  have pe := es s3 H3 s3.heap.objs.size clo fp
  obtain ⟨ce, hce⟩ : ∃ c, c = compEnvC scope clo s3.heap.objs.size X.env := ⟨_, rfl⟩
  rw [← hce] at I4 pg pt pe
  have cL : ce.locals = s3.heap.objs.size := by rw [hce]; rfl
  obtain ⟨s4, hs4⟩ : ∃ z : Shared, z = { s3 with heap := pushCells (s3.heap.push { cls := .type "dict", data := .dict #[] }) scope.names } := ⟨_, rfl⟩
  rw [← hs4] at I4
  rw [show ({ s2 with heap := s2.heap.push (freshO X.w) } : Shared) = s3 from hs3.symm, ← hclo]
  suffices goal : codeAny (model X.prog X.w) X.A (.compStart (.SetComp elt [⟨tg, iter, ifs, 0⟩] scope pos) 0 (.ref it) (.ref D) ce) (compPost (model X.prog X.w) X.A X.xe none (EP X pins σ Q) (.ref D) s3.heap.objs.size) s4 by
    rw [hce, hs4] at goal
    exact goal
  have st4 : tn 0 s4.heap := T.keep _ _ _ st3 fun b _ o e => by rw [hs4]; exact pushCells_keeps _ _ _ _ (Heap.get?_push_of_some _ e)
  have nfp : ∀ b ∈ fp, H3 b = none := fun b hb => (f3 b hb).1.1
  have still : ∀ {σ' : L2.St} {H' : Hp} {s' : Shared}, Inv (X.blk s3 H3 scope ce fp) [] σ' H' s' → (∀ b ∈ fp, H' b = none) → ∀ b ∈ fp, FpOk (X.blk s3 H3 scope ce fp) [] H' b := fun {σ' H' s'} I' hn b hb =>
    ⟨hn b hb, (I'.ok.exf b hb).1, I'.ok.exfs b hb, .inl hb, fun x c e => (I'.ok.exf b hb).2 x c e, fun p hp => by simp at hp⟩
  have loop : codeAny (model X.prog X.w) X.A (.compLoop (.SetComp elt [⟨tg, iter, ifs, 0⟩] scope pos) 0 (.ref it) (.ref D) ce) (compPost (model X.prog X.w) X.A X.xe none (EP X pins σ Q) (.ref D) s3.heap.objs.size) s4 := by
    refine PpSet.compLoopS_any (fun n z => ∃ i H', Inv (X.blk s3 H3 scope ce fp) [] (wipe σ (own.map (·.2))) H' z ∧ tn i z.heap ∧ (∀ b ∈ fp, H' b = none) ∧ W i n H') (fun n s5 hI => ?_) m0 ⟨0, H3, I4, st4, nfp, w0⟩
    obtain ⟨i, H5, I5, st5, n5, w5⟩ := hI
    rcases turn i n H5 w5 with ⟨stop, qq⟩ | ⟨go, Nx, hNx, step⟩
    · refine thnF (T.done (X.blk s3 H3 scope ce fp) rfl rfl rfl calm i [] s5 _ H5 (fun _ _ => False) I5 (still I5 n5) st5 stop) fun r s6 ⟨hr, I6⟩ => ?_
      subst hr
      have I7 : Inv X pins σ H5 s6 := I3.call' (ch := fp) I6.os I6.base I6.hok I6.bare fun b hb => by
        obtain ⟨_, a1, a2, a3, a4, a5⟩ := (f3 b hb).1
        exact ⟨a3, a1, a4, a5⟩
      have free : H5 s3.heap.objs.size = none := by
        rw [← cL]; exact I6.free
      obtain ⟨m, hn, _⟩ := I6.loc
      rw [show (X.blk s3 H3 scope ce fp).env.locals = s3.heap.objs.size from cL] at hn
      refine ⟨m, hn, fun h'' sb => ?_⟩
      obtain ⟨b0, b1, b2, b3, b4, b5⟩ := I3.fpOk (Nat.le_refl _) free
      exact ⟨.ref D, H5, I7.turned (t' := s6.toks) (fun b o hb e => (sb.2 b hb).trans e) b0 b1 b3 b4 b5, rfl, qq⟩
    · refine thnF (T.item (X.blk s3 H3 scope ce fp) rfl rfl rfl calm i [] s5 _ H5 (fun _ _ => False) I5 (still I5 n5) st5 go) fun r s6 ⟨u, hr, h6⟩ => ?_
      subst hr
      refine thnF h6 fun _ s7 ⟨x, H7, I7, r7, y7, st7, n7⟩ => ?_
      refine thnF (pg.run _ s7 _ H7 x u _ (I7.pinned (still I7 n7) (T.obj _ _ st7)) r7 (step x H7 y7)) fun _ s8 ⟨σ8, H8, I8, hw8, q8⟩ => ?_
      refine thnF (pt.run _ s8 σ8 H8 _ I8 q8) fun b s9 ⟨H9, I9, q9⟩ => ?_
      have turned : ∀ {z : Shared} {H' : Hp}, Inv (X.blk s3 H3 scope ce fp) ([] ++ pinsAt fp s7.heap) σ8 H' z → Nx H' → ∃ m, m < n ∧ ∃ i H', Inv (X.blk s3 H3 scope ce fp) [] (wipe σ (own.map (·.2))) H' z ∧ tn i z.heap ∧ (∀ b ∈ fp, H' b = none) ∧ W i m H' := fun {z H'} I' nx => by
        obtain ⟨m', hm, w'⟩ := hNx H' nx
        have pinned : ∀ b ∈ fp, ∀ o, s7.heap.get? b = some o → z.heap.get? b = some o ∧ H' b = none := fun b hb o e => by
          obtain ⟨p1, p2, _⟩ := I'.pin (b, o) (List.mem_append_right _ (List.mem_append_right _ (mem_pinsAt hb e)))
          exact ⟨p1, p2⟩
        refine ⟨m', hm, i + 1, H', (I'.unpinned (pins := [])).weak (by rw [← hw8, wipe_length]) (fun j v e => ?_), T.keep _ _ _ st7 fun b hb o e => (pinned b hb o e).1, fun b hb => ?_, w'⟩
        · rw [← hw8] at e; exact (wipe_some e).1
        · obtain ⟨o, e, _⟩ := T.obj _ _ st7 b hb
          exact (pinned b hb o e).2
      cases b with
      | false =>
        simp only [Bool.false_eq_true, if_false] at q9 ⊢
        exact turned I9 q9
      | true =>
        simp only [if_true] at q9 ⊢
        refine thnF (pe.run _ s9 σ8 H9 _ I9 q9) fun z s10 ⟨yv, H10, I10, r10, k, ks, ey, hD10, room, nx⟩ => ?_
        subst ey
        exact add_key (X := X.blk s3 H3 scope ce fp) I10 hD10 r10 room fun s11 I11 => turned I11 nx
  exact PpSet.codeAny_compStart_set loop (T.self X.A 0 _ _ _ st4 loop)
end
/-! ### sorted({e for x in t}), t a tuple -/
theorem onceL_snoc' {α : Type} [DecidableEq α] (xs : List α) (x : α) : onceL (xs ++ [x]) = addK x (onceL xs) := by
  unfold onceL; rw [List.foldl_append]; rfl
section
variable {X : Cx} {F : Fr} {Γ : DL.Env} {Q : D → DL.Env → Prop}
theorem we_sortedSc {α : Type} [DecidableEq α] {f : α → D} {lt : α → α → Bool} {n : Nat} {gk : α → Key} [hf : DOrd f lt n] [kg : KeyEnc f gk] {elt tg iter : Expr} {scope : Scope} {own : List (Str × Nat)} {vs : List Nat} {pos p1 q1 : Pos} (bs : BltAt X "sorted" (.builtin "sorted")) (hX : Std X) (ok : BlkOk X.N X.env.scope scope own) (plain : ∀ x, foldedSetIterable iter X.env x = pure x) (hv : own.map (·.2) = vs)
    (he : starEach [.SetComp elt [⟨tg, iter, [], 0⟩] scope pos] X.env = (false, eval (.SetComp elt [⟨tg, iter, [], 0⟩] scope pos) X.env) :: starEach [] X.env)
    (h : WE X F iter Γ fun d Γ1 => ∃ (ds : List D) (xs : List α), See Γ1.M Γ1.R d (.tup ds) ∧ xs.length = ds.length ∧ xs.length ≤ 4000 ∧
      (∀ (i : Nat) x y, ds[i]? = some x → xs[i]? = some y → ∀ (F' : Fr) X', IsBlk X X' scope → WGC X' F' tg x vs ⟨wipeD Γ1.sl vs, Γ1.M, Γ1.R⟩ fun Γ2 => ∀ X', IsBlk X X' scope → WE X' F' elt Γ2 fun z Γ4 => z = f y ∧ ∃ s5, Γ4 = ⟨s5, Γ1.M, Γ1.R⟩) ∧
      ∀ p, Q (.ref p) ⟨Γ1.sl, (p, .lst ((srt lt (onceL xs)).map f)) :: Γ1.M, Γ1.R⟩) :
    WE X F (.Call (.Name "sorted" p1) [.SetComp elt [⟨tg, iter, [], 0⟩] scope pos] [] q1) Γ Q := fun G σ H hh K hK => by
  subst hv
  have i1 : PE X (.SetComp elt [⟨tg, iter, [], 0⟩] scope pos) _ := pe_sk (X := X) (g := tgB X tg scope) (tt := ttB X [] scope) (te := teB X elt scope) hX.calm hX.nd (pi_tup (pe_U (X := X) (e := iter))) ok (fun z Hz C cl fp => pg_B z Hz C cl fp) (fun z Hz C cl fp => pts_B z Hz C cl fp) (fun z Hz C cl fp => pe_B z Hz C cl fp) plain
  have i2 : PE X (.Call (.Name "sorted" p1) [.SetComp elt [⟨tg, iter, [], 0⟩] scope pos] [] q1) _ := pe_callB (call_sortedK hX.calm hX.hu) bs.gl bs.mg bs.bv (pa_cons i1 pa_nil he) bs.hn bs.hdb
  refine tU_of i2 ?_
  refine h G σ H hh _ fun d Γ1 G1 v H1 q s1 h1 r1 => ?_
  obtain ⟨ds, xs, see, len, hz, turn, fin⟩ := q
  obtain ⟨a, us, rfl, hS, hr⟩ := h1.seeT (K := X.K) r1 see
  refine ⟨a, rfl, ⟨us, hS⟩, fun D hD => ?_⟩
  have hB : F.B D = none := h1.bh.free hD
  have hR : ∀ q ∈ Γ1.R, q.1 ≠ D := fun q hq z => by
    obtain ⟨o, e, _⟩ := h1.rd q hq
    rw [z] at e
    rcases e with e | ⟨_, e⟩ <;> (rw [hB] at e; cases e)
  have next : ∀ (i : Nat) (y : α), xs[i]? = some y → addK (gk y) ((onceL (xs.take i)).map gk) = (onceL (xs.take (i + 1))).map gk := fun i y e => by
    rw [← onceL_map kg.inj, ← onceL_snoc', ← onceL_map kg.inj]
    congr 1
    rw [List.take_add_one, e, List.map_append]; rfl
  refine ⟨fun i m H' => i + m = ds.length ∧ ∃ G', Same G1 G' ∧ Holds ⟨upd F.B D (stO X.prog X.w D ((onceL (xs.take i)).map gk)), F.G0⟩ G' ⟨wipeD Γ1.sl (own.map (·.2)), Γ1.M, Γ1.R⟩ (wipe σ (own.map (·.2))) H', ⟨ds.length, by omega, G1, Same.refl _, (h1.beside hD).wiped _⟩, fun i m H' hW => ?_⟩
  obtain ⟨em, G', sg, h'⟩ := hW
  have e' : H' D = some (stO X.prog X.w D ((onceL (xs.take i)).map gk)) := h'.bh _ _ upd_same
  obtain ⟨a', us', ea, hS', hr'⟩ := h'.seeT (K := X.K) (r1.mono sg) see
  cases ea
  by_cases hi : i < ds.length
  · obtain ⟨x, hx⟩ : ∃ x, ds[i]? = some x := ⟨_, List.getElem?_eq_getElem hi⟩
    obtain ⟨y, hy⟩ : ∃ y, xs[i]? = some y := ⟨_, List.getElem?_eq_getElem (by omega)⟩
    obtain ⟨w, hw, rw'⟩ := hr'.get hx
    refine .inr ⟨⟨us', w, hS', hw⟩, fun H'' => ∃ G', Same G1 G' ∧ Holds ⟨upd F.B D (stO X.prog X.w D ((onceL (xs.take (i + 1))).map gk)), F.G0⟩ G' ⟨wipeD Γ1.sl (own.map (·.2)), Γ1.M, Γ1.R⟩ (wipe σ (own.map (·.2))) H'', fun H'' z => ⟨m - 1, by omega, by omega, z⟩, fun x' H'' hyld => ?_⟩
    obtain ⟨e1, e2⟩ := hyld
    subst e1
    have e3 := e2 us' hS'
    rw [hw] at e3
    cases e3
    intro sh H0 C cl fp
    refine turn i x y hx hy _ _ ⟨sh, H0, C, cl, fp, rfl⟩ G' _ _ _ h' rw' _ fun Γ2 G3 σ3 H3 q3 s3 h3 w3 => ?_
    refine ⟨by rw [w3, wipe_wipe], ?_⟩
    intro sh H0 C cl fp
    intro pins s' I
    refine wts_nil (Q := fun b Γ => b = true ∧ Γ = Γ2) ⟨rfl, rfl⟩ G3 σ3 H3 h3 _ (fun b Γ4 G4 H4 q4 s4 h4 => ?_) pins s' I
    obtain ⟨rfl, rfl⟩ := q4
    rw [if_pos rfl]
    intro sh H0 C cl fp
    refine q3 _ ⟨sh, H0, C, cl, fp, rfl⟩ G4 σ3 H4 h4 _ fun z Γ5 G5 vz H5 q5 s5 h5 r5 => ?_
    obtain ⟨rfl, s6, rfl⟩ := q5
    rw [kg.e] at r5
    refine ⟨gk y, _, r5.kD_inv, h5.bh _ _ upd_same, ?_, G5, ((sg.trans s3).trans s4).trans s5, ?_⟩
    · rw [List.length_map]
      have l1 := onceL_len (xs.take i)
      rw [List.length_take] at l1
      have : scanBound = 4096 := rfl
      omega
    · rw [next i y hy]
      have h6 := Holds.besideTo (Γ := ⟨s6, Γ1.M, Γ1.R⟩) (o' := stO X.prog X.w D ((onceL (xs.take (i + 1))).map gk)) hB h1.gb hR (fun vs => (stO_nt _ _ _ _ vs)) h5
      have h0 := (h1.beside (o := stO X.prog X.w D []) hD).wiped (own.map (·.2))
      refine h6.slots h0.len fun j d e => ?_
      obtain ⟨v, c, r⟩ := h0.sl j d e
      exact ⟨v, c, r.mono (((sg.trans s3).trans s4).trans s5)⟩
  · have ei : i = ds.length := by omega
    subst ei
    refine .inl ⟨⟨us', hS', by rw [hr'.1]; exact Nat.le_refl _⟩, ?_⟩
    rw [List.take_of_length_le (Nat.le_of_eq len)] at e' h'
    refine ⟨D, _, rfl, e', ?_, fun ys p py hp => ?_⟩
    · intro j hj k hk
      obtain ⟨b, _, rfl⟩ := List.mem_map.mp hj
      obtain ⟨c, _, rfl⟩ := List.mem_map.mp hk
      rw [← kg.e, ← kg.e]
      exact hf.al b c
    · obtain ⟨zs, ez, pz⟩ : ∃ zs : List α, ys = zs.map gk ∧ zs.Perm (onceL xs) := perm_of_map py.symm _ rfl
      subst ez
      have es : ((zs.map gk).mergeSort leK) = (srt lt (onceL xs)).map gk := by
        rw [← hf.srt_eq pz]
        refine (List.map_mergeSort (r := fun a b => !lt b a) (s := leK) (f := gk) (l := zs) (fun a _ b _ => ?_)).symm
        show (!lt b a) = leD (kD (gk a)) (kD (gk b))
        rw [← kg.e, ← kg.e, hf.leD]
      rw [es]
      have em : (srt lt (onceL xs)).map f = ((srt lt (onceL xs)).map gk).map kD := by
        rw [List.map_map]
        exact List.map_congr_left fun a _ => kg.e a
      have back : Holds F G' Γ1 σ H' := by
        have h7 := Holds.besideOff (Γ := ⟨wipeD Γ1.sl (own.map (·.2)), Γ1.M, Γ1.R⟩) hB h1.gb hR h'
        refine h7.slots h1.len fun j d e => ?_
        obtain ⟨v, c, r⟩ := h1.sl j d e
        exact ⟨v, c, r.mono sg⟩
      refine hK _ _ G' _ _ (fin p) (s1.trans sg) (back.newOwn hp (.lst ?_)) (.ref p)
      rw [em]
      exact kv_reps _
end
end DL

/-! The D layer, part 22: append by Lean values; constants of the module; ranges with a step; defaults and keyword arguments. -/
namespace DL
open PySem PySem.Spec PyProof.Rows L2
section
variable {X : Cx} {F : Fr} {Γ : DL.Env} {Q : D → DL.Env → Prop} {sl sl' : List (Option D)} {M M' R : Mem}
theorem wm_appendM {α : Type} {f : α → D} {p : Addr} {xs : List α} {v : D} {y : α} {k : Nat} [h : At M p (.lst (xs.map f)) k] [en : EncAs f v y] [h2 : SetM M k (p, .lst ((xs ++ [y]).map f)) M'] (hl : xs.length < sizeLine) (q : Q .non ⟨sl, M', R⟩) : WM X F "list.append" (.ref p) [v] ⟨sl, M, R⟩ Q := by
  have h2' : SetM M k (p, .lst (xs.map f ++ [v])) M' := ⟨by rw [h2.e, List.map_append, en.e]; rfl⟩
  exact wm_append (by rw [List.length_map]; exact hl) q
/-! ### constants of the module -/
structure ConAt (X : Cx) (x : Str) (d : D) : Prop where
  gl : Gl X x
  ex : ∃ (v : V) (u : Value), X.mg x = some u ∧ RelV v u ∧ ∀ G, Rep G v d
  hdb : (x == ("__debug__" : Str)) = false
theorem we_con {x : Str} {pos : Pos} {d : D} (c : ConAt X x d) (q : Q d Γ) : WE X F (.Name x pos) Γ Q := by
  obtain ⟨v, u, hm, r, rd⟩ := c.ex
  exact we_glob c.gl hm r c.hdb rd q
theorem Nm.con {P : Program} {w : World} {K : PySem.W.Frag} {mg : Str → Option Value} {base : Heap} {k : Nat} {N : List Str} {sc : Scope} (n : Nm X N sc) (hX : In X P w K mg base k) {x : Str} {i : Int} (hl : sc.names.lookup x = some .globalImplicit) (hm : ∃ u, mg x = some u ∧ RelV (.int i) u) (hdb : (x == ("__debug__" : Str)) = false) : ConAt X x (.int i) := by
  obtain ⟨u, e, r⟩ := hm
  exact ⟨n.gl hl, ⟨.int i, u, by rw [hX.mg]; exact e, r, fun G => .int i⟩, hdb⟩
/-! ### range(i, j, c), c above 0 -/
theorem small_up {i j c : Int} (hi : 0 ≤ i) (hi2 : i < 2 ^ 62) (hj : 0 ≤ j) (hj2 : j < 2 ^ 62) (hc : 0 < c) (hc2 : c < 1000000000) : RgC i j c (if i < j then (j - i - 1) / c + 1 else 0).toNat := by
  have e : Builtin.Range.rangeSize i j c = if i < j then (j - i - 1) / c + 1 else 0 := by
    unfold Builtin.Range.rangeSize
    rw [if_pos hc]
  have h0 : 0 ≤ (if i < j then (j - i - 1) / c + 1 else 0) := by
    split
    · have := Int.ediv_nonneg (show 0 ≤ j - i - 1 by omega) (Int.le_of_lt hc); omega
    · omega
  have h1 : (if i < j then (j - i - 1) / c + 1 else 0) ≤ 2 ^ 62 := by
    split
    · have := Int.ediv_le_self c (show 0 ≤ j - i - 1 by omega); omega
    · omega
  refine ⟨by omega, by omega, ?_, ?_⟩
  · unfold Builtin.Range.small
    rw [e, if_pos hc]
    simp only [Builtin.Range.rangeFitsLong, Bool.and_eq_true, Bool.or_eq_true, decide_eq_true_eq, beq_iff_eq]
    refine ⟨⟨⟨⟨by omega, by omega⟩, by omega⟩, by omega⟩, .inr (by omega)⟩
  · rw [e]; omega
def stepD (lo c : Int) (n : Nat) : List D := (List.range n).map fun (i : Nat) => D.int (lo + (i : Int) * c)
theorem stepD_at {lo c : Int} {n i : Nat} {x : D} (h : (stepD lo c n)[i]? = some x) : i < n ∧ x = .int (lo + (i : Int) * c) := by
  unfold stepD at h
  rw [List.getElem?_map] at h
  obtain ⟨y, e, rfl⟩ := Option.map_eq_some_iff.mp h
  obtain ⟨hy, e2⟩ := List.getElem?_eq_some_iff.mp e
  rw [List.length_range] at hy
  rw [List.getElem_range] at e2
  subst e2
  exact ⟨hy, rfl⟩
theorem stepD_len {lo c : Int} {n : Nat} : (stepD lo c n).length = n := by unfold stepD; rw [List.length_map, List.length_range]
theorem itSem_step {G1 : Hp} {lo c : Int} {n : Nat} : ItSem F G1 (Itc lo c n) (stepD lo c n) fun _ => True := by
  intro Γ' G' σ' H' sg h' _
  refine ⟨by rw [stepD_len]; exact Nat.le_refl _, fun i x hx => ?_⟩
  obtain ⟨hi, rfl⟩ := stepD_at hx
  exact ⟨hi, fun v H'' ⟨e1, e2⟩ => ⟨G', Same.refl G', by rw [e1]; exact h', by rw [e2]; exact .int _⟩⟩
variable {K : List D → (DL.Env → Prop) → DL.Env → Prop} {tg : Expr}
theorem wi_range3 {a b c : Expr} {p pos : Pos} (hg : Gl X "range") (hm : X.mg "range" = none) (hs : starEach [a, b, c] X.env = (false, eval a X.env) :: starEach [b, c] X.env) (hpl : (backTo pos (starEach [b, c] X.env)).any (·.1) = false)
    (h : WA X F [a, b, c] Γ fun ds Γ1 => ∃ i j s : Int, ds = [.int i, .int j, .int s] ∧ (0 ≤ i ∧ i < 2 ^ 62 ∧ 0 ≤ j ∧ j < 2 ^ 62 ∧ 0 < s ∧ s < 1000000000) ∧ K (stepD i s (if i < j then (j - i - 1) / s + 1 else 0).toNat) (fun _ => True) Γ1) : WI X F tg (.Call (.Name "range" p) [a, b, c] [] pos) Γ K := fun G σ H hh R hR pins s I => by
  refine (pi_range3 (tg := tg) hg hm pa_U hs hpl).run pins s σ H R I ?_
  refine h G σ H hh _ fun ds Γ1 G1 vs H1 q s1 h1 r => ?_
  obtain ⟨i, j, c', rfl, ⟨b1, b2, b3, b4, b5, b6⟩, k⟩ := q
  obtain ⟨v1, vr, rfl, r1, r⟩ := r.cons_inv
  obtain ⟨v2, v3, rfl, r2, r3⟩ := r.two
  rw [r1.int_inv, r2.int_inv, r3.int_inv]
  exact ⟨i, j, c', _, rfl, small_up b1 b2 b3 b4 b5 b6, hR _ _ Γ1 G1 H1 _ k s1 h1 itSem_step⟩
end

/-! ### defs with defaults; keyword arguments -/
def DefAtD (K : PySem.W.Frag) (mg : Str → Option Value) (x : Str) (st : Stmt) (dvs : List V) (kws : List (Str × V)) : Prop := ∃ (f : Addr) (fd : FuncData), FunD K x x (defArgs st) (defBody st) (defScope st) dvs kws f fd ∧ mg x = some (.ref f)
section
variable {P : Program} {w : World} {K : PySem.W.Frag} {mg : Str → Option Value} {base : Heap}
theorem fnDD {x : Str} {st : Stmt} {f : Addr} {fd : FuncData} {N ps : List Str} {dvs : List V} {kws : List (Str × V)} {k : Nat} {S : SpD} (Fu : FunD K x x (defArgs st) (defBody st) (defScope st) dvs kws f fd) (Sc : FnScope N ps (defScope st)) (len : ∀ ds M R Q, S ds M R Q → ds.length = ps.length)
    (hbody : ∀ (X : Cx) (F : Fr), In X P w K mg base k → Nm X N (defScope st) → ∀ ds M R Q, S ds M R Q → WSs X F (defBody st) ⟨startD N.length ds, M, R⟩ (outD Q)) : FnOk P w K mg base CX0 (k + 1) f fd ps (SpOf S) := by
  refine Fu.ok Sc (fun vs H Q E h => ?_) (fun cdv A outer s H vs Q E hr h => ?_)
  · obtain ⟨ds, M, R, B, G, Pq, r, _, _, _, _, hS, _⟩ := h
    rw [r.1]; exact len _ _ _ _ hS
  · obtain ⟨ds, M, R, B, G, Pq, r, gb, bh, mk, rk, hS, q⟩ := h
    refine ⟨tUSs _ (defBody st), PSs.nox pss_U, ?_⟩
    have hin : In (cxOf CX0 P w K mg base N x (defScope st) f cdv A outer s H E).nox P w K mg base k := ⟨rfl, rfl, rfl, rfl, rfl, hr, rfl, Sc.nd, rfl⟩
    obtain ⟨e1, e2⟩ := start_reps (N := N) r
    refine hbody _ ⟨B, G⟩ hin ⟨rfl, rfl, rfl⟩ ds M R Pq hS G (L2.start N vs) H ⟨Same.refl _, gb.trans bh, bh, gb, fun p o e => .inl e, e1, e2, mk, rk⟩ _ ⟨?_, ?_, ?_, ?_⟩
    · intro Γ' G' σ' H' ⟨M', nd, sb, hp⟩ sg hh
      exact q .non M' G' .non H' hp sg hh.gh hh.bh hh.nw ⟨nd, fun z hz => hh.mem.at_ z (sb z hz)⟩ .non
    · intro d Γ' G' σ' v H' ⟨M', nd, sb, hp⟩ sg hh rv
      exact q d M' G' v H' hp sg hh.gh hh.bh hh.nw ⟨nd, fun z hz => hh.mem.at_ z (sb z hz)⟩ rv
    · exact fun _ _ _ _ z => z.elim
    · exact fun _ _ _ _ z => z.elim
/-- f(..), the last parameters by their defaults dd -/
structure CalX (P : Program) (w : World) (K : PySem.W.Frag) (mg : Str → Option Value) (base : Heap) (k : Nat) (x : Str) (dd : List D) (S : SpD) : Prop where
  ex : ∃ (f : Addr) (fd : FuncData) (ps : List Str) (dvs : List V) (ds : List Value), FnOk P w K mg base CX0 k f fd ps (SpOf S) ∧ mg x = some (.ref f) ∧ PySem.W.keepIn K (.ref f) = true ∧ Binds K fd ps ds ∧ Vals dvs ds ∧ ∀ G, Reps G dvs dd
/-- f(.., k = ..): n values by place, then the ones by name (ks), put in order by g -/
structure CalK (P : Program) (w : World) (K : PySem.W.Frag) (mg : Str → Option Value) (base : Heap) (k : Nat) (x : Str) (n : Nat) (ks : List Str) (g : List D → List D → List D) (S : SpD) : Prop where
  ex : ∃ (f : Addr) (fd : FuncData) (ps : List Str) (gv : List Value → List Value → List Value) (gV : List V → List V → List V), FnOk P w K mg base CX0 k f fd ps (SpOf S) ∧ mg x = some (.ref f) ∧ PySem.W.keepIn K (.ref f) = true ∧ KBn K fd ps n ks gv gV ∧ ∀ G vs ds zs es, Reps G vs ds → Reps G zs es → Reps G (gV vs zs) (g ds es)
/-- one parameter by place, one by name alone -/
theorem calX_kw1 {x : Str} {st : Stmt} {N : List Str} {p q : Str} {v : V} {d : D} {k : Nat} {S : SpD} (Da : DefAtD K mg x st [] [(q, v)]) (hv : ∀ G, Rep G v d) (Sc : FnScope N [p, q] (defScope st))
    (hb : ∀ (D : Addr) (doc pm : Value) (an : Option Addr) (cdv ct : Value) (us ks : List Value), us.length = 1 → ks.length = 1 → KwChain D ([q].zip ks) (bindArgs (PySem.W.fnOf x x (defArgs st) (defBody st) (defScope st) .none (.ref D) doc pm an cdv ct) ⟨us, []⟩) ([p, q].zip (us ++ ks)))
    (hk : ∀ (D : Addr) (doc pm : Value) (an : Option Addr) (cdv ct : Value) (us ks : List Value), us.length = 1 → ks.length = 1 → bindArgs (PySem.W.fnOf x x (defArgs st) (defBody st) (defScope st) .none (.ref D) doc pm an cdv ct) ⟨us, [q].zip ks⟩ = pure ([p, q].zip (us ++ ks)))
    (len : ∀ ds M R Q, S ds M R Q → ds.length = 2) (hbody : ∀ (X : Cx) (F : Fr), In X P w K mg base k → Nm X N (defScope st) → ∀ ds M R Q, S ds M R Q → WSs X F (defBody st) ⟨startD N.length ds, M, R⟩ (outD Q)) :
    CalX P w K mg base (k + 1) x [d] S ∧ CalK P w K mg base (k + 1) x 1 [q] (fun ds es => ds ++ es) S := by
  obtain ⟨f, fd, Fu, hm⟩ := Da
  have F1 := fnDD Fu Sc len hbody
  obtain ⟨ds, rv, bd⟩ := Fu.binds0 (ps := [p, q]) 1 (by simp) rfl hb
  refine ⟨⟨f, fd, [p, q], [v], ds, F1, hm, Fu.kp, bd, rv, fun G => Reps.cons (hv G) Reps.nil⟩, ⟨f, fd, [p, q], fun us ws => us ++ ws, fun vs zs => vs ++ zs, F1, hm, Fu.kp, ?_, fun G vs ds zs es r1 r2 => r1.append r2⟩⟩
  obtain ⟨oc, od, dV, kV, doc, pm, an, cdv, ct, osl, rfl, lk, hcd, hD, hK⟩ := Fu.ex
  rcases hD with ⟨_, rfl⟩ | ⟨e, _⟩
  · rcases hK with e | ⟨D, rfl, hq⟩
    · cases e
    · exact ⟨fun s us ws _ l1 l2 => .of_eq (hk D doc pm an cdv ct us ws l1 l2), fun r1 r2 => r1.append r2⟩
  · exact absurd rfl e
variable {X : Cx} {F : Fr} {Γ : DL.Env} {Q : D → DL.Env → Prop} {sl sl' : List (Option D)} {M M' R : Mem}
theorem we_callX {k j : Nat} {S : SpD} {x : Str} {p pos : Pos} {e : Expr} {es : List Expr} {dd : List D} (c : CalX P w K mg base k x dd S) (hX : In X P w K mg base j) (hj : k ≤ j) (hg : Gl X x) (hdb : (x == ("__debug__" : Str)) = false) (he : starEach (e :: es) X.env = (false, eval e X.env) :: starEach es X.env)
    (hpl : (backTo pos (starEach es X.env)).any (·.1) = false) (h : WA X F (e :: es) Γ fun ds Γ1 => Own0 S (ds ++ dd) Γ1 Q) : WE X F (.Call (.Name x p) (e :: es) [] pos) Γ Q := fun G σ H hh R hR => by
  obtain ⟨f, fd, ps, dvs, us, Fn, hm, hk, hb, rv, rd⟩ := c.ex
  obtain ⟨rfl, rfl, rfl, rfl, rfl, room, calm, nd, nox⟩ := hX
  refine tU_of (pe_call Fn (room.mono hj) hg hm hk hb rv (E := fun _ _ _ => False) pass0 pa_U hdb he hpl) ?_
  refine h G σ H hh _ fun ds Γ1 G1 vs H1 q s1 h1 r1 => ?_
  exact call_sem (M0 := []) h1 (r1.append (rd G1)) (List.Perm.refl _) q _ _ fun d M' G' v H' hq sg h' rv => hR d _ G' v H' hq (s1.trans sg) h' rv
/-- the values of keywords -/
def WK (X : Cx) (F : Fr) (kws : List Keyword) (Γ : DL.Env) (Q : List D → DL.Env → Prop) : Prop := ∀ G σ H, Holds F G Γ σ H → ∀ R, GoodA F Q G σ R → ∀ (pos : Pos) (pins : List (Addr × Obj)) (s : Shared), Inv X pins σ H s →
  wpAny (model X.prog X.w) X.A (evalAll ((backToKw pos (keywordEach kws X.env)).map (·.2))) (AP X pins σ R) X.xe s
theorem wk_nil {Q : List D → DL.Env → Prop} (q : Q [] Γ) : WK X F [] Γ Q := fun G σ H hh R hR pos pins s I => pk_nil.run pos pins s σ H R I (hR [] Γ G [] H q (Same.refl G) hh Reps.nil)
theorem wk_cons {nm : Option Str} {e : Expr} {kpos : Pos} {kws : List Keyword} {Q : List D → DL.Env → Prop} (h : WE X F e Γ fun d Γ1 => WK X F kws Γ1 fun ds Γ2 => Q (d :: ds) Γ2) : WK X F (⟨nm, e, kpos⟩ :: kws) Γ Q := fun G σ H hh R hR pos pins s I => by
  have tl : PK X kws (fun σ H R => ∀ (pos : Pos) (pins : List (Addr × Obj)) (s : Shared), Inv X pins σ H s → wpAny (model X.prog X.w) X.A (evalAll ((backToKw pos (keywordEach kws X.env)).map (·.2))) (AP X pins σ R) X.xe s) := ⟨fun pos pins s σ H Q I h => h pos pins s I⟩
  refine (pk_cons (nm := nm) (kpos := kpos) (pe_U (X := X) (e := e)) tl).run pos pins s σ H R I ?_
  refine h G σ H hh _ fun d Γ1 G1 v H1 q s1 h1 r1 pos pins s I => ?_
  exact q G1 σ H1 h1 _ (fun ds Γ2 G2 vs H2 q2 s2 h2 r2 => hR (d :: ds) Γ2 G2 (v :: vs) H2 q2 (s1.trans s2) h2 (Reps.cons (r1.mono s2) r2)) pos pins s I
theorem we_callK {k j n : Nat} {S : SpD} {x : Str} {p pos : Pos} {e : Expr} {es : List Expr} {kws : List Keyword} {ks : List Str} {g : List D → List D → List D} (c : CalK P w K mg base k x n ks g S) (hX : In X P w K mg base j) (hj : k ≤ j) (hg : Gl X x)
    (hall : (backToKw pos (keywordEach kws X.env)).all (·.1.isSome) = true) (hks : (backToKw pos (keywordEach kws X.env)).filterMap (·.1) = ks)
    (hdb : (x == ("__debug__" : Str)) = false) (he : starEach (e :: es) X.env = (false, eval e X.env) :: starEach es X.env) (hpl : ((backTo pos (starEach (e :: es) X.env)).any (·.1) || (backToKw pos (keywordEach kws X.env)).any (·.1.isNone)) = false)
    (h : WA X F (e :: es) Γ fun ds Γ1 => WK X F kws Γ1 fun zs Γ2 => ds.length = n ∧ zs.length = ks.length ∧ Own0 S (g ds zs) Γ2 Q) : WE X F (.Call (.Name x p) (e :: es) kws pos) Γ Q := fun G σ H hh R hR => by
  obtain ⟨f, fd, ps, gv, gV, Fn, hm, hk, hb, rg⟩ := c.ex
  obtain ⟨rfl, rfl, rfl, rfl, rfl, room, calm, nd, nox⟩ := hX
  have tl : PK X kws (fun σ H R => ∀ (pos : Pos) (pins : List (Addr × Obj)) (s : Shared), Inv X pins σ H s → wpAny (model X.prog X.w) X.A (evalAll ((backToKw pos (keywordEach kws X.env)).map (·.2))) (AP X pins σ R) X.xe s) := ⟨fun pos pins s σ H Q I h => h pos pins s I⟩
  refine tU_of (pe_callN Fn (room.mono hj) hg hm hk hb (E := fun _ _ _ => False) pass0 pa_U tl hall hks hdb he hpl) ?_
  refine h G σ H hh _ fun ds Γ1 G1 vs H1 q s1 h1 r1 pos' pins s I => ?_
  refine q G1 σ H1 h1 _ (fun zs Γ2 G2 us H2 q2 s2 h2 r2 => ?_) pos' pins s I
  obtain ⟨l1, l2, q3⟩ := q2
  refine ⟨by rw [r1.1]; exact l1, by rw [r2.1]; exact l2, ?_⟩
  exact call_sem (M0 := []) h2 (rg _ _ _ _ _ (r1.mono s2) r2) (List.Perm.refl _) q3 _ _ fun d M' G' v H' hq sg h' rv => hR d _ G' v H' hq ((s1.trans s2).trans sg) h' rv
end
end DL

/-! The D layer, part 23: texts as lists of signs. -/
namespace DL
open PySem PySem.Spec PyProof.Rows L2
abbrev sg (z : Str) : List Nat := z.cps.toList
theorem sg_len (z : Str) : (sg z).length = z.length := Array.length_toList
theorem sg_ext {z w : Str} (h : sg z = sg w) : z = w := by
  cases z with | mk a => cases w with | mk b =>
  have : a = b := Array.toList_inj.mp h
  rw [this]
theorem sg_app (z w : Str) : sg (z ++ w) = sg z ++ sg w := Array.toList_append
theorem sg_one (c : Nat) : sg ⟨#[c]⟩ = [c] := rfl
theorem clip_ix (n d : Nat) (v : Option Int) (hd : d ≤ n) : (match v with
    | none => (d : Int)
    | some i => max 0 (min (if i < 0 then i + (n : Int) else i) (n : Int))) = ((HT.sIx n d v : Nat) : Int) := by
  cases v with
  | none => rfl
  | some i =>
    show max 0 (min (if i < 0 then i + (n : Int) else i) (n : Int)) = ((if i < 0 then (i + (n : Int)).toNat else min i.toNat n : Nat) : Int)
    split <;> omega
theorem slice_ix (n : Nat) (lo hi : Option Int) : Builtin.Str.strSliceIndices lo hi 1 n = (List.range (HT.sIx n n hi - HT.sIx n 0 lo)).map fun k => HT.sIx n 0 lo + k := by
  have e : Builtin.Str.strSliceIndices lo hi 1 n = sliceRange ((HT.sIx n 0 lo : Nat) : Int) ((HT.sIx n n hi : Nat) : Int) 1 := by
    rw [← clip_ix n 0 lo (Nat.zero_le _), ← clip_ix n n hi (Nat.le_refl _)]
    cases lo <;> cases hi <;> rfl
  rw [e]
  unfold sliceRange
  generalize HT.sIx n 0 lo = a
  generalize HT.sIx n n hi = b
  have c : (if (1 : Int) > 0 then (if (a : Int) < b then ((b : Int) - a + 1 - 1) / 1 else 0) else (if (a : Int) > b then ((a : Int) - b - 1 - 1) / (-1) else 0)).toNat = b - a := by
    rw [if_pos (by decide)]
    split <;> omega
  dsimp only
  rw [c]
  exact List.map_congr_left fun k _ => by omega
theorem sg_slice (t : Str) (lo hi : Option Int) : sg (Txt.slice t lo hi) = cutD (sg t) lo hi := by
  have ha : HT.sIx t.length 0 lo ≤ t.length := HT.sIx_le _ _ (Nat.zero_le _) _
  have hb : HT.sIx t.length t.length hi ≤ t.length := HT.sIx_le _ _ (Nat.le_refl _) _
  have key : ∀ a b : Nat, a ≤ t.length → b ≤ t.length → HT.sIx t.length 0 lo = a → HT.sIx t.length t.length hi = b → sg (Txt.slice t lo hi) = ((sg t).drop a).take (b - a) := by
    intro a b h1 h2 e1 e2
    have e3 : Builtin.Str.strSliceIndices lo hi 1 t.length = Builtin.Str.strSliceIndices (some (a : Int)) (some ((max a b : Nat) : Int)) 1 t.length := by
      rw [slice_ix, slice_ix, e1, e2, HT.sIx_nat, HT.sIx_nat, Nat.min_eq_left h1, Nat.min_eq_left (by omega), show max a b - a = b - a by omega]
    have e4 : Txt.slice t lo hi = Txt.slice t (some (a : Int)) (some ((max a b : Nat) : Int)) := by
      unfold Txt.slice
      rw [e3]
    rw [e4]
    refine (PySem.W.os_slice (t := t) (a := a) (b := max a b) (by omega) (by omega)).trans ?_
    rw [show max a b - a = b - a by omega]
  unfold cutD
  rw [sg_len]
  exact key _ _ ha hb rfl rfl
theorem slice_len_le (t : Str) (lo hi : Option Int) : (Txt.slice t lo hi).length ≤ t.length := Txt.slice_le t lo hi
/-- the items of a list, in a row, told by what stands in it -/
theorem wss_mid {X : Cx} {F : Fr} {Γ : DL.Env} {st : List Stmt} {O : Out} (Mid : DL.Env → Prop) (h : WSs X F st Γ { O with nx := Mid }) (h2 : ∀ Γ1, Mid Γ1 → O.nx Γ1) : WSs X F st Γ O := wss_mono h h2 (fun _ _ z => z) (fun _ z => z) fun _ z => z
/-- return of a thing that is shared from then on -/
theorem ws_retV {X : Cx} {F : Fr} {Γ : DL.Env} {e : Expr} {pos : Pos} {O : Out} (h : WE X F e Γ fun d Γ1 => Fz F d Γ1 O.rt) : WS X F (.Return (some e) pos) Γ O := ws_ret (we_fz h)
/-! ### how long a text is, by instances -/
class SzLe (z : Str) (n : outParam Nat) : Prop where
  le : z.length ≤ n
instance SzLe.one {c : Nat} : SzLe ⟨#[c]⟩ 1 := ⟨Nat.le_refl 1⟩
instance SzLe.app {z w : Str} {a b : Nat} [h : SzLe z a] [k : SzLe w b] : SzLe (z ++ w) (a + b) := ⟨by
  rw [← sg_len, sg_app, List.length_append, sg_len, sg_len]
  exact Nat.add_le_add h.le k.le⟩
instance SzLe.cut {z : Str} {a : Nat} {lo hi : Option Int} [h : SzLe z a] : SzLe (Txt.slice z lo hi) a := ⟨Nat.le_trans (slice_len_le z lo hi) h.le⟩
section
variable {X : Cx} {F : Fr} {Γ : DL.Env} {Q : D → DL.Env → Prop} {z w : Str} {a b : Nat} {ea eb : Expr}
theorem wo_addS2 [h : SzLe z a] [k : SzLe w b] (hz : a + b ≤ 16777216) (q : Q (.str (z ++ w)) Γ) : WO X F (binaryOp .Add) (.str z) (.str w) Γ Q := wo_addS (by have := h.le; have := k.le; show _ ≤ 16777216; omega) q
theorem wsl_txt2 {lo hi : Option Int} [h : SzLe z a] (hz : a ≤ 16777216) (q : Q (.str (Txt.slice z lo hi)) Γ) : WSl X F (.str z) lo hi Γ Q := wsl_txt (Nat.le_trans h.le hz) q
theorem wc_lenS2 [h : SzLe z a] (hz : a ≤ 16777216) (q : Q (.int (z.length : Int)) Γ) : WC X F (.builtin "len") [.str z] Γ Q := wc_lenS (Nat.le_trans h.le hz) q
end
end DL

/-! The D layer, part 24: dicts by Lean values. -/
namespace DL
open PySem PySem.Spec PyProof.Rows L2
section
variable {α β κ : Type} [DecidableEq α] [DecidableEq κ] {g : α → κ} {f : β → D}
/-- the rows of a dict, by Lean values -/
def asK (g : α → κ) (f : β → D) (es : List (α × β)) : List (κ × D) := es.map fun e => (g e.1, f e.2)
def getE (es : List (α × β)) (a : α) : Option β := (es.find? fun e => decide (e.1 = a)).map (·.2)
def putE (es : List (α × β)) (a : α) (b : β) : List (α × β) := if (es.any fun e => decide (e.1 = a)) = true then es.map (fun e => if e.1 = a then (e.1, b) else e) else es ++ [(a, b)]
def delE (es : List (α × β)) (a : α) : List (α × β) := es.filter fun e => decide (e.1 ≠ a)
/-- told apart by their keys -/
class KeyInj (g : α → κ) : Prop where
  inj : ∀ a b, g a = g b → a = b
theorem key_iff [k : KeyInj g] {a b : α} : g a = g b ↔ a = b := ⟨k.inj a b, fun h => by rw [h]⟩
theorem asK_len (es : List (α × β)) : (asK g f es).length = es.length := by unfold asK; rw [List.length_map]
theorem look_as [KeyInj g] (es : List (α × β)) (a : α) : lookD (asK g f es) (g a) = (getE es a).map f := by
  unfold lookD asK getE
  rw [List.find?_map]
  have e : ((fun kv : κ × D => decide (kv.1 = g a)) ∘ fun e : α × β => (g e.1, f e.2)) = fun e : α × β => decide (e.1 = a) := by
    funext e
    exact decide_eq_decide.mpr (key_iff (g := g) (a := e.1) (b := a))
  rw [e]
  cases es.find? fun e => decide (e.1 = a) <;> rfl
theorem any_as [KeyInj g] (es : List (α × β)) (a : α) : ((asK g f es).any fun kv => decide (kv.1 = g a)) = es.any fun e => decide (e.1 = a) := by
  unfold asK
  rw [List.any_map]
  congr 1
  funext e
  exact decide_eq_decide.mpr (key_iff (g := g) (a := e.1) (b := a))
theorem put_as [KeyInj g] (es : List (α × β)) (a : α) (b : β) : putD (asK g f es) (g a) (f b) = asK g f (putE es a b) := by
  unfold putD putE
  rw [any_as]
  split
  · unfold asK
    rw [List.map_map, List.map_map]
    refine List.map_congr_left fun e _ => ?_
    by_cases h : e.1 = a
    · simp [h]
    · have : ¬ g e.1 = g a := fun z => h (key_iff.mp z)
      simp [h, this]
  · unfold asK; rw [List.map_append]; rfl
theorem drop_as [KeyInj g] (es : List (α × β)) (a : α) : dropD (asK g f es) (g a) = asK g f (delE es a) := by
  unfold dropD delE asK
  rw [List.filter_map]
  congr 1
  refine List.filter_congr fun e _ => ?_
  show decide (g e.1 ≠ g a) = decide (e.1 ≠ a)
  refine decide_eq_decide.mpr (not_congr key_iff)
theorem keys_as (es : List (α × β)) : (asK g f es).map (·.1) = (es.map (·.1)).map g := by
  unfold asK; rw [List.map_map, List.map_map]; rfl
theorem getE_mem {es : List (α × β)} {a : α} {b : β} (h : getE es a = some b) : (a, b) ∈ es := by
  unfold getE at h
  obtain ⟨e, e1, rfl⟩ := Option.map_eq_some_iff.mp h
  have h1 := List.find?_some e1
  have h2 := List.mem_of_find?_eq_some e1
  have : e.1 = a := by simpa using h1
  rw [← this]; exact h2
theorem getE_some {es : List (α × β)} {a : α} : (getE es a).isSome = decide (a ∈ es.map (·.1)) := by
  unfold getE
  rw [Option.isSome_map, Bool.eq_iff_iff, decide_eq_true_eq, List.find?_isSome, List.mem_map]
  constructor
  · rintro ⟨e, h1, h2⟩
    exact ⟨e, h1, by simpa using h2⟩
  · rintro ⟨e, h1, h2⟩
    exact ⟨e, h1, by simpa using h2⟩
theorem getE_of {es : List (α × β)} (nd : (es.map (·.1)).Nodup) {a : α} {b : β} (h : (a, b) ∈ es) : getE es a = some b := by
  have h1 : (getE es a).isSome = true := by rw [getE_some, decide_eq_true_eq]; exact List.mem_map_of_mem (f := Prod.fst) h
  obtain ⟨c, e⟩ := Option.isSome_iff_exists.mp h1
  have h2 := getE_mem e
  have : b = c := by
    induction es with
    | nil => cases h
    | cons z es ih =>
      rw [List.map_cons, List.nodup_cons] at nd
      rcases List.mem_cons.mp h with rfl | h3
      · rcases List.mem_cons.mp h2 with h4 | h4
        · exact (Prod.mk.inj h4).2.symm
        · exact absurd (List.mem_map_of_mem (f := Prod.fst) h4) nd.1
      · rcases List.mem_cons.mp h2 with rfl | h4
        · exact absurd (List.mem_map_of_mem (f := Prod.fst) h3) nd.1
        · have nz : z.1 ≠ a := fun q => nd.1 (q ▸ List.mem_map_of_mem (f := Prod.fst) h3)
          refine ih nd.2 h3 ?_ ?_ h4
          · rw [getE_some, decide_eq_true_eq]; exact List.mem_map_of_mem (f := Prod.fst) h3
          · unfold getE at e ⊢
            rwa [List.find?_cons_of_neg (by simpa using nz)] at e
  rw [e, this]
theorem putE_len (es : List (α × β)) (a : α) (b : β) : (putE es a b).length ≤ es.length + 1 := by
  unfold putE
  split
  · rw [List.length_map]; omega
  · rw [List.length_append]; exact Nat.le_refl _
theorem putE_keys (es : List (α × β)) (a : α) (b : β) : (putE es a b).map (·.1) = if a ∈ es.map (·.1) then es.map (·.1) else es.map (·.1) ++ [a] := by
  have e : (es.any fun e => decide (e.1 = a)) = true ↔ a ∈ es.map (·.1) := by
    rw [List.any_eq_true, List.mem_map]
    exact ⟨fun ⟨x, h1, h2⟩ => ⟨x, h1, by simpa using h2⟩, fun ⟨x, h1, h2⟩ => ⟨x, h1, by simpa using h2⟩⟩
  unfold putE
  by_cases h : a ∈ es.map (·.1)
  · rw [if_pos (e.mpr h), if_pos h, List.map_map]
    refine List.map_congr_left fun x _ => ?_
    show (if x.1 = a then (x.1, b) else x).1 = x.1
    split <;> rfl
  · rw [if_neg fun z => h (e.mp z), if_neg h, List.map_append]; rfl
theorem putE_nodup {es : List (α × β)} (nd : (es.map (·.1)).Nodup) (a : α) (b : β) : ((putE es a b).map (·.1)).Nodup := by
  rw [putE_keys]
  split
  · exact nd
  · rename_i h
    exact List.nodup_append.mpr ⟨nd, by simp, fun x hx y hy e => h (by rw [List.mem_singleton.mp hy] at e; exact e ▸ hx)⟩
theorem delE_nodup {es : List (α × β)} (nd : (es.map (·.1)).Nodup) (a : α) : ((delE es a).map (·.1)).Nodup := ((List.filter_sublist (l := es)).map _).nodup nd
/-- a key set anew: its row goes, a new one comes -/
theorem putE_perm {es : List (α × β)} (nd : (es.map (·.1)).Nodup) (a : α) (b : β) : (putE es a b).Perm (delE es a ++ [(a, b)]) := by
  unfold putE
  by_cases h : (es.any fun e => decide (e.1 = a)) = true
  · rw [if_pos h]
    have hm : a ∈ es.map (·.1) := by
      obtain ⟨x, h1, h2⟩ := List.any_eq_true.mp h
      exact List.mem_map.mpr ⟨x, h1, by simpa using h2⟩
    clear h
    induction es with
    | nil => cases hm
    | cons z es ih =>
      rw [List.map_cons, List.nodup_cons] at nd
      by_cases hz : z.1 = a
      · have rest : es.map (fun e => if e.1 = a then (e.1, b) else e) = es := by
          refine (List.map_congr_left fun e he => ?_).trans (List.map_id _)
          have : e.1 ≠ a := fun q => nd.1 (by rw [hz, ← q]; exact List.mem_map_of_mem (f := Prod.fst) he)
          simp [this]
        have d : delE (z :: es) a = es := by
          unfold delE
          rw [List.filter_cons_of_neg (by simpa using hz), List.filter_eq_self]
          intro e he
          have : e.1 ≠ a := fun q => nd.1 (by rw [hz, ← q]; exact List.mem_map_of_mem (f := Prod.fst) he)
          simpa using this
        rw [d, List.map_cons, rest, if_pos hz, hz]
        exact (List.perm_append_singleton (a, b) es).symm
      · have d : delE (z :: es) a = z :: delE es a := by
          unfold delE
          rw [List.filter_cons_of_pos (by simpa using hz)]
        rw [d, List.map_cons, if_neg hz, List.cons_append]
        refine (ih nd.2 ?_).cons z
        rcases List.mem_cons.mp hm with q | q
        · exact absurd q.symm hz
        · exact q
  · rw [if_neg h]
    have d : delE es a = es := by
      unfold delE
      rw [List.filter_eq_self]
      intro e he
      have : ¬ e.1 = a := fun q => h (List.any_eq_true.mpr ⟨e, he, by simpa using q⟩)
      simpa using this
    rw [d]
end
instance KeyInj.inl : KeyInj (Sum.inl : Int → Key) := ⟨fun a b h => by cases h; rfl⟩
instance KeyInj.inr : KeyInj (Sum.inr : Str → Key) := ⟨fun a b h => by cases h; rfl⟩
/-- d is the word of the key g a -/
class KeyIs {α : Type} (g : α → Key) (d : D) (a : outParam α) : Prop where
  e : d = kD (g a)
instance KeyIs.inl {i : Int} : KeyIs Sum.inl (.int i) i := ⟨rfl⟩
instance KeyIs.inr {z : Str} : KeyIs Sum.inr (.str z) z := ⟨rfl⟩
/-- how the keys are told as data -/
class KeyFor {α : Type} (g : α → Key) (fk : outParam (α → D)) : Prop where
  e : ∀ a, fk a = kD (g a)
instance KeyFor.inl : KeyFor Sum.inl D.int := ⟨fun _ => rfl⟩
instance KeyFor.inr : KeyFor Sum.inr D.str := ⟨fun _ => rfl⟩
/-- .. of the tuple of keys -/
class KeyTIs {α : Type} (g : α → List Key) (d : D) (a : outParam α) : Prop where
  e : d = .tup ((g a).map kD)
section
variable {α β : Type} [DecidableEq α] {X : Cx} {F : Fr} {Γ : DL.Env} {Q : D → DL.Env → Prop} {sl : List (Option D)} {M M' R : Mem} {ea eb : Expr} {QG : DL.Env → Prop} {f : β → D} {es : List (α × β)} {a : α} {b : β} {d y v : D} {p : Addr} {m : Nat}
section
variable {g : α → Key} [KeyInj g]
theorem wx_asK (hX : Std X) [sd : SeeK M R d (asK g f es)] [ky : KeyIs g y a] (ha : getE es a = some b) (q : Q (f b) ⟨sl, M, R⟩) : WX X F ea eb d y ⟨sl, M, R⟩ Q := by
  rw [ky.e]
  exact wx_dK hX (by rw [look_as, ha]; rfl) q
theorem wo_inAsK (hX : Std X) [sd : SeeK M R d (asK g f es)] [ky : KeyIs g y a] (q : Q (.bl (getE es a).isSome) ⟨sl, M, R⟩) : WO X F (compareOp .In) y d ⟨sl, M, R⟩ Q := by
  rw [ky.e]
  exact wo_inK' hX (by rw [look_as, Option.isSome_map]; exact q)
theorem wo_ninAsK (hX : Std X) [sd : SeeK M R d (asK g f es)] [ky : KeyIs g y a] (q : Q (.bl (!(getE es a).isSome)) ⟨sl, M, R⟩) : WO X F (compareOp .NotIn) y d ⟨sl, M, R⟩ Q := by
  rw [ky.e]
  exact wo_ninK' hX (by rw [look_as, Option.isSome_map]; exact q)
theorem wset_asK (hX : Std X) [h : At M p (.dK (asK g f es)) m] [ky : KeyIs g y a] [en : EncAs f v b] [h2 : SetM M m (p, .dK (asK g f (putE es a b))) M'] (hl : es.length < sizeLine) (q : QG ⟨sl, M', R⟩) : WSet X F (.ref p) y v ⟨sl, M, R⟩ QG := by
  have h2' : SetM M m (p, .dK (putD (asK g f es) (g a) v)) M' := ⟨by rw [h2.e, en.e, put_as]⟩
  rw [ky.e]
  exact wset_dK hX (by rw [asK_len]; exact hl) q
theorem getD_asK {Q : Option D → DL.Env → Prop} [sd : SeeK M R d (asK g f es)] [ky : KeyIs g y a] (q : Q ((getE es a).map f) ⟨sl, M, R⟩) : GetD F d y ⟨sl, M, R⟩ Q := by
  haveI : KeyAs y (g a) := ⟨ky.e⟩
  exact getD_K (by rw [look_as]; exact q)
theorem popD_asK {j : Nat} [h : At M p (.dK (asK g f es)) j] [ky : KeyIs g y a] [t : SetM M j (p, .dK (asK g f (delE es a))) M'] (hx : getE es a = some b) (q : Q (f b) ⟨sl, M', R⟩) : PopD F (.ref p) y ⟨sl, M, R⟩ Q := by
  haveI : KeyAs y (g a) := ⟨ky.e⟩
  haveI : SetM M j (p, .dK (dropD (asK g f es) (g a))) M' := ⟨by rw [t.e, drop_as]⟩
  exact popD_go (by rw [look_as, hx]; rfl) q
end
section
variable {g : α → List Key} [KeyInj g]
theorem wx_asT (hX : Std X) [sd : SeeDT M R d (asK g f es)] [ky : KeyTIs g y a] (ha : getE es a = some b) (q : Q (f b) ⟨sl, M, R⟩) : WX X F ea eb d y ⟨sl, M, R⟩ Q := by
  rw [ky.e]
  exact wx_dT hX (by rw [look_as, ha]; rfl) q
theorem wo_inAsT (hX : Std X) [sd : SeeDT M R d (asK g f es)] [ky : KeyTIs g y a] (q : Q (.bl (getE es a).isSome) ⟨sl, M, R⟩) : WO X F (compareOp .In) y d ⟨sl, M, R⟩ Q := by
  rw [ky.e]
  exact wo_inDT' hX (by rw [look_as, Option.isSome_map]; exact q)
theorem wo_ninAsT (hX : Std X) [sd : SeeDT M R d (asK g f es)] [ky : KeyTIs g y a] (q : Q (.bl (!(getE es a).isSome)) ⟨sl, M, R⟩) : WO X F (compareOp .NotIn) y d ⟨sl, M, R⟩ Q := by
  rw [ky.e]
  exact wo_ninDT' hX (by rw [look_as, Option.isSome_map]; exact q)
theorem wset_asT (hX : Std X) [h : At M p (.dT (asK g f es)) m] [ky : KeyTIs g y a] [en : EncAs f v b] [h2 : SetM M m (p, .dT (asK g f (putE es a b))) M'] (hl : es.length < sizeLine) (q : QG ⟨sl, M', R⟩) : WSet X F (.ref p) y v ⟨sl, M, R⟩ QG := by
  have h2' : SetM M m (p, .dT (putD (asK g f es) (g a) v)) M' := ⟨by rw [h2.e, en.e, put_as]⟩
  rw [ky.e]
  exact wset_dT hX (by rw [asK_len]; exact hl) q
theorem getD_asT {Q : Option D → DL.Env → Prop} [sd : SeeDT M R d (asK g f es)] [ky : KeyTIs g y a] (q : Q ((getE es a).map f) ⟨sl, M, R⟩) : GetD F d y ⟨sl, M, R⟩ Q := by
  haveI : KeyTAs y (g a) := ⟨ky.e⟩
  exact getD_T (by rw [look_as]; exact q)
end
/-- sorted(d) -/
theorem wc_sortedAs {lt : α → α → Bool} {n : Nat} {fk : α → D} {g : α → Key} [KeyInj g] [sd : SeeK M R d (asK g f es)] [kf : KeyFor g fk] [hf : DOrd fk lt n] (hX : Std X) (q : ∀ p, Q (.ref p) ⟨sl, (p, .lst ((srt lt (es.map (·.1))).map fk)) :: M, R⟩) : WC X F (.builtin "sorted") [d] ⟨sl, M, R⟩ Q :=
  haveI : KeyEnc fk g := ⟨kf.e, KeyInj.inj⟩
  wc_sortedK (g := g) hX (keys_as es) q
end
end DL

/-! The D layer, part 25: a dict that is only read is walked; len of dicts. -/
namespace DL
open PySem PySem.Spec PyProof.Rows L2
section
variable {F : Fr} {G : Hp} {σ : L2.St} {H : Hp} {sl : List (Option D)} {M R : Mem} {p : Addr}
/-- a heap without one thing -/
def lessP (G : Hp) (p : Addr) : Hp := fun a => if a = p then none else G a
theorem lessP_ne {G : Hp} {p a : Addr} (h : a ≠ p) : lessP G p a = G a := by unfold lessP; rw [if_neg h]
theorem lessP_at {G : Hp} {p : Addr} : lessP G p p = none := by unfold lessP; rw [if_pos rfl]
theorem lessP_some {G : Hp} {p a : Addr} {o : HO} (h : lessP G p a = some o) : a ≠ p ∧ G a = some o := by
  by_cases e : a = p
  · rw [e, lessP_at] at h; cases h
  · rw [lessP_ne e] at h; exact ⟨e, h⟩
theorem Rep.less {v : V} {d : D} (hp : ∀ vs, G p ≠ some (.tup vs) ∧ G p ≠ some (.lst vs)) (h : Rep G v d) : Rep (lessP G p) v d := by
  induction h with
  | non => exact .non
  | bl b => exact .bl b
  | int i => exact .int i
  | str x => exact .str x
  | ref p => exact .ref p
  | ty n => exact .ty n
  | @tup a vs ds h l _ ih => exact .tup (by rw [lessP_ne (a := a) fun e => (hp vs).1 (by rw [← e]; exact h)]; exact h) l ih
  | @lst a vs ds h l _ ih => exact .lst (by rw [lessP_ne (a := a) fun e => (hp vs).2 (by rw [← e]; exact h)]; exact h) l ih
theorem Reps.less {vs : List V} {ds : List D} (hp : ∀ vs, G p ≠ some (.tup vs) ∧ G p ≠ some (.lst vs)) (h : Reps G vs ds) : Reps (lessP G p) vs ds := ⟨h.1, fun i v d a b => (h.2 i v d a b).less hp⟩
theorem Shell.less {o : HO} {d : D} (hp : ∀ vs, G p ≠ some (.tup vs) ∧ G p ≠ some (.lst vs)) (h : Shell G o d) : Shell (lessP G p) o d := by
  cases h with
  | lst r => exact .lst (r.less hp)
  | dK a r => exact .dK a (r.less hp)
  | dT a r => exact .dT a (r.less hp)
  | ins a r => exact .ins a (r.less hp)
def isDict : HO → Prop
  | .dK _ => True
  | .dT _ => True
  | _ => False
theorem Holds.lockR {u : HO} {od : Obj} (hh : Holds F G ⟨sl, M, R⟩ σ H) (hu : F.B p = some u) (hd : isDict u) : Holds ⟨upd F.B p (.frz od u), lessP F.G0 p⟩ (lessP G p) ⟨sl, M, R⟩ σ (upd H p (.frz od u)) := by
  have hH : H p = some u := hh.bh _ _ hu
  have hp : ∀ vs, G p ≠ some (.tup vs) ∧ G p ≠ some (.lst vs) := fun vs => by
    refine ⟨fun e => ?_, fun e => ?_⟩ <;> (have e2 := hh.gh _ _ e; rw [hH] at e2; cases e2; exact hd.elim)
  refine ⟨fun b o e => ?_, fun b o e => ?_, fun b o e => ?_, fun b o e => ?_, fun b o e => ?_, hh.len, fun i d e => ?_, ⟨hh.mem.nd, fun q hq => ?_⟩, fun q hq => ?_⟩
  · obtain ⟨ne, e⟩ := lessP_some e
    rw [lessP_ne ne]; exact hh.g0 _ _ e
  · obtain ⟨ne, e⟩ := lessP_some e
    rw [upd_ne ne]; exact hh.gh _ _ e
  · by_cases hb : b = p
    · subst hb
      have e2 : upd F.B b (.frz od u) b = some o := e
      rw [upd_same] at e2 ⊢; exact e2
    · have e2 : upd F.B p (.frz od u) b = some o := e
      rw [upd_ne hb] at e2 ⊢; exact hh.bh _ _ e2
  · obtain ⟨ne, e⟩ := lessP_some e
    show upd F.B p (.frz od u) b = some o
    rw [upd_ne ne]; exact hh.gb _ _ e
  · obtain ⟨ne, e⟩ := lessP_some e
    rcases hh.nw b o e with z | z | z
    · refine .inl ?_
      show lessP F.G0 p b = some o
      rw [lessP_ne ne]; exact z
    · refine .inr (.inl ?_)
      show upd F.B p (.frz od u) b = none
      rw [upd_ne ne]; exact z
    · exact .inr (.inr z)
  · obtain ⟨v, a, b⟩ := hh.sl i d e
    exact ⟨v, a, b.less hp⟩
  · obtain ⟨a, b, o, c, d⟩ := hh.mem.at_ q hq
    have ne : q.1 ≠ p := fun e => by rw [e, hu] at a; cases a
    refine ⟨?_, ?_, o, ?_, d.less hp⟩
    · show upd F.B p (.frz od u) q.1 = none
      rw [upd_ne ne]; exact a
    · rw [lessP_ne ne]; exact b
    · rw [upd_ne ne]; exact c
  · obtain ⟨o, a, b⟩ := hh.rd q hq
    by_cases ne : q.1 = p
    · rcases a with a | ⟨z, a⟩
      · rw [ne, hu] at a
        cases a
        refine ⟨u, .inr ⟨od, ?_⟩, b.less hp⟩
        show upd F.B p (.frz od u) q.1 = _
        rw [ne, upd_same]
      · rw [ne, hu] at a
        cases a
        exact hd.elim
    · refine ⟨o, ?_, b.less hp⟩
      rcases a with a | ⟨z, a⟩
      · left
        show upd F.B p (.frz od u) q.1 = _
        rw [upd_ne ne]; exact a
      · right
        refine ⟨z, ?_⟩
        show upd F.B p (.frz od u) q.1 = _
        rw [upd_ne ne]; exact a
theorem Holds.unlockR {u : HO} {od : Obj} {G1 : Hp} {H1 : Hp} {σ1 : L2.St} {sl1 : List (Option D)} {M1 : Mem} (hh : Holds F G ⟨sl, M, R⟩ σ H) (hu : F.B p = some u) (hd : isDict u) (sg : Same (lessP G p) G1)
    (h : Holds ⟨upd F.B p (.frz od u), lessP F.G0 p⟩ G1 ⟨sl1, M1, R⟩ σ1 H1) : H1 p = some (.frz od u) ∧ ∃ G2, Same G G2 ∧ Same G1 G2 ∧ Holds F G2 ⟨sl1, M1, R⟩ σ1 (upd H1 p u) := by
  have hH1 : H1 p = some (.frz od u) := h.bh _ _ upd_same
  have hG1 : G1 p = none := by
    cases e : G1 p with
    | none => rfl
    | some o =>
      rcases h.nw p o e with z | z | ⟨vs, z⟩
      · have z2 : lessP F.G0 p p = some o := z
        rw [lessP_at] at z2; cases z2
      · have z2 : upd F.B p (.frz od u) p = none := z
        rw [upd_same] at z2; cases z2
      · have e2 := h.gh _ _ e
        rw [hH1, z] at e2; cases e2
  obtain ⟨G2, hG2⟩ : ∃ g : Hp, g = fun a => if a = p then G p else G1 a := ⟨_, rfl⟩
  have g2p : G2 p = G p := by rw [hG2]; simp
  have g2n : ∀ a, a ≠ p → G2 a = G1 a := fun a e => by rw [hG2]; simp [e]
  have s12 : Same G1 G2 := fun b o e => by
    have ne : b ≠ p := fun z => by rw [z, hG1] at e; cases e
    rw [g2n b ne]; exact e
  have s02 : Same G G2 := fun b o e => by
    by_cases ne : b = p
    · rw [ne, g2p, ← ne]; exact e
    · rw [g2n b ne]
      exact sg _ _ (by rw [lessP_ne ne]; exact e)
  refine ⟨hH1, G2, s02, s12, ⟨hh.g0.trans s02, fun b o e => ?_, fun b o e => ?_, hh.gb, fun b o e => ?_, h.len, fun i d e => ?_, ⟨h.mem.nd, fun q hq => ?_⟩, fun q hq => ?_⟩⟩
  · by_cases ne : b = p
    · subst ne
      rw [g2p] at e
      have e2 := hh.gh _ _ e
      rw [hh.bh _ _ hu] at e2
      cases e2
      exact upd_same
    · rw [g2n b ne] at e
      rw [upd_ne ne]; exact h.gh _ _ e
  · by_cases ne : b = p
    · subst ne
      rw [hu] at e
      cases e
      exact upd_same
    · rw [upd_ne ne]
      refine h.bh _ _ ?_
      show upd F.B p (.frz od u) b = some o
      rw [upd_ne ne]; exact e
  · by_cases ne : b = p
    · rw [ne, g2p] at e
      rw [ne]; exact hh.nw _ _ e
    · rw [g2n b ne] at e
      rcases h.nw b o e with z | z | z
      · exact .inl (lessP_some z).2
      · have z2 : upd F.B p (.frz od u) b = none := z
        rw [upd_ne ne] at z2
        exact .inr (.inl z2)
      · exact .inr (.inr z)
  · obtain ⟨v, a, b⟩ := h.sl i d e
    exact ⟨v, a, b.mono s12⟩
  · obtain ⟨a, b, o, c, d⟩ := h.mem.at_ q hq
    have a2 : upd F.B p (.frz od u) q.1 = none := a
    have ne : q.1 ≠ p := fun e => by rw [e, upd_same] at a2; cases a2
    rw [upd_ne ne] at a2
    exact ⟨a2, by rw [g2n _ ne]; exact b, o, by rw [upd_ne ne]; exact c, d.mono s12⟩
  · obtain ⟨o, a, b⟩ := h.rd q hq
    refine ⟨o, ?_, b.mono s12⟩
    by_cases ne : q.1 = p
    · rcases a with a | ⟨z, a⟩
      · have a2 : upd F.B p (.frz od u) q.1 = some o := a
        rw [ne, upd_same] at a2
        cases a2
        cases b
      · have a2 : upd F.B p (.frz od u) q.1 = some (.frz z o) := a
        rw [ne, upd_same] at a2
        cases a2
        rw [ne]; exact .inl hu
    · rcases a with a | ⟨z, a⟩
      · have a2 : upd F.B p (.frz od u) q.1 = some o := a
        rw [upd_ne ne] at a2; exact .inl a2
      · have a2 : upd F.B p (.frz od u) q.1 = some (.frz z o) := a
        rw [upd_ne ne] at a2; exact .inr ⟨z, a2⟩
end
section
variable {X : Cx} {F : Fr} {sl : List (Option D)} {M R : Mem} {p : Addr} {c : D} {k : Nat}
def isDictD : D → Prop
  | .dK _ => True
  | .dT _ => True
  | _ => False
theorem shell_dict {G : Hp} {o : HO} {c : D} (h : Shell G o c) (hc : isDictD c) : isDict o := by
  cases h with
  | lst _ => exact hc
  | dK _ _ => trivial
  | dT _ _ => trivial
  | ins _ _ => exact hc
theorem we_lockR {e : Expr} {Q : D → DL.Env → Prop} (p : Addr) [a : At R p c k] (hc : isDictD c) (h : ∀ F' : Fr, Lk F' p → WE X F' e ⟨sl, M, R⟩ fun d Γ => ∃ sl1 M1, Γ = ⟨sl1, M1, R⟩ ∧ Q d ⟨sl1, M1, R⟩) : WE X F e ⟨sl, M, R⟩ Q := fun G σ H hh K hK => by
  obtain ⟨u, hu, hs⟩ := hh.rd _ (List.mem_of_getElem? a.e)
  have hd := shell_dict hs hc
  rcases hu with hu | ⟨od, hu⟩
  · refine tU_lock (hh.bh _ _ hu) (mutS hs) fun od => h ⟨upd F.B p (.frz od u), lessP F.G0 p⟩ ⟨od, u, upd_same⟩ (lessP G p) σ _ (hh.lockR hu hd) _ ?_
    rintro d Γ' G' v H' ⟨sl1, M1, rfl, q⟩ sg h' rv
    obtain ⟨e2, G2, s02, s12, h2⟩ := hh.unlockR hu hd sg h'
    exact ⟨e2, hK _ _ G2 _ _ q s02 h2 (rv.mono s12)⟩
  · refine h F ⟨od, u, hu⟩ G σ H hh K fun d Γ' G' v H' ⟨sl1, M1, e, q⟩ sg h' rv => ?_
    subst e
    exact hK _ _ G' _ _ q sg h' rv
theorem ws_lockR {st : Stmt} {O : Out} (p : Addr) [a : At R p c k] (hc : isDictD c) (h : ∀ F' : Fr, Lk F' p → WS X F' st ⟨sl, M, R⟩ { nx := fun Γ => ∃ sl1 M1, Γ = ⟨sl1, M1, R⟩ ∧ O.nx Γ, rt := fun d Γ => ∃ sl1 M1, Γ = ⟨sl1, M1, R⟩ ∧ O.rt d Γ, bk := fun Γ => ∃ sl1 M1, Γ = ⟨sl1, M1, R⟩ ∧ O.bk Γ, ct := fun Γ => ∃ sl1 M1, Γ = ⟨sl1, M1, R⟩ ∧ O.ct Γ }) : WS X F st ⟨sl, M, R⟩ O := fun G σ H hh E hE => by
  obtain ⟨u, hu, hs⟩ := hh.rd _ (List.mem_of_getElem? a.e)
  have hd := shell_dict hs hc
  rcases hu with hu | ⟨od, hu⟩
  · refine tUS_lock (hh.bh _ _ hu) (mutS hs) fun od => h ⟨upd F.B p (.frz od u), lessP F.G0 p⟩ ⟨od, u, upd_same⟩ (lessP G p) σ _ (hh.lockR hu hd) _ ⟨?_, ?_, ?_, ?_⟩
    · rintro Γ' G' σ' H' ⟨sl1, M1, rfl, q⟩ sg h'
      obtain ⟨e2, G2, s02, s12, h2⟩ := hh.unlockR hu hd sg h'
      exact ⟨e2, hE.nx _ _ _ _ q s02 h2⟩
    · rintro d Γ' G' σ' v H' ⟨sl1, M1, rfl, q⟩ sg h' rv
      obtain ⟨e2, G2, s02, s12, h2⟩ := hh.unlockR hu hd sg h'
      exact ⟨e2, hE.rt _ _ _ _ _ _ q s02 h2 (rv.mono s12)⟩
    · rintro Γ' G' σ' H' ⟨sl1, M1, rfl, q⟩ sg h'
      obtain ⟨e2, G2, s02, s12, h2⟩ := hh.unlockR hu hd sg h'
      exact ⟨e2, hE.bk _ _ _ _ q s02 h2⟩
    · rintro Γ' G' σ' H' ⟨sl1, M1, rfl, q⟩ sg h'
      obtain ⟨e2, G2, s02, s12, h2⟩ := hh.unlockR hu hd sg h'
      exact ⟨e2, hE.ct _ _ _ _ q s02 h2⟩
  · refine h F ⟨od, u, hu⟩ G σ H hh E ⟨?_, ?_, ?_, ?_⟩
    · rintro Γ' G' σ' H' ⟨sl1, M1, rfl, q⟩ sg h'
      exact hE.nx _ _ _ _ q sg h'
    · rintro d Γ' G' σ' v H' ⟨sl1, M1, rfl, q⟩ sg h' rv
      exact hE.rt _ _ _ _ _ _ q sg h' rv
    · rintro Γ' G' σ' H' ⟨sl1, M1, rfl, q⟩ sg h'
      exact hE.bk _ _ _ _ q sg h'
    · rintro Γ' G' σ' H' ⟨sl1, M1, rfl, q⟩ sg h'
      exact hE.ct _ _ _ _ q sg h'
variable {Q : D → DL.Env → Prop} {d : D}
theorem wc_lenK {kds : List (Key × D)} [sd : SeeK M R d kds] (q : Q (.int (kds.length : Int)) ⟨sl, M, R⟩) : WC X F (.builtin "len") [d] ⟨sl, M, R⟩ Q := fun G σ H xs hh rr K hK pins s us I rv => by
  obtain ⟨v, rfl, r⟩ := rr.one
  obtain ⟨p, kvs, rfl, a, e1, _⟩ := hh.seeK r sd.see
  have el : kvs.length = kds.length := by have := congrArg List.length e1; simpa using this
  rw [Vals.ref1 rv]
  refine d_len I a fun t s' I' => ⟨.int kvs.length, H, I', ⟨t, rfl⟩, ?_⟩
  rw [el]
  exact hK.here hh q (.int _)
theorem wc_lenT {kds : List (List Key × D)} [sd : SeeDT M R d kds] (q : Q (.int (kds.length : Int)) ⟨sl, M, R⟩) : WC X F (.builtin "len") [d] ⟨sl, M, R⟩ Q := fun G σ H xs hh rr K hK pins s us I rv => by
  obtain ⟨v, rfl, r⟩ := rr.one
  obtain ⟨p, kvs, rfl, a, e1, _⟩ := hh.seeDT r sd.see
  have el : kvs.length = kds.length := by have := congrArg List.length e1; simpa using this
  rw [Vals.ref1 rv]
  obtain ⟨z, hd, ys, rel, dd⟩ := dt_rd I.hok a
  have hl : kvs.length = ys.length := Paired.length rel
  have hs : sizeLine = 16777216 := sizeLine_eq
  refine PySem.call_len_dictH hd dd (by rw [← hl]; omega) ?_
  rw [← hl, el]
  exact ⟨.int ((kds.length : Nat) : Int), H, I.tok _, ⟨_, rfl⟩, hK.here hh q (.int _)⟩
theorem wc_lenAsK {α β : Type} {g : α → Key} {f : β → D} {es : List (α × β)} [sd : SeeK M R d (asK g f es)] (q : Q (.int (es.length : Int)) ⟨sl, M, R⟩) : WC X F (.builtin "len") [d] ⟨sl, M, R⟩ Q := wc_lenK (by unfold asK; rw [List.length_map]; exact q)
theorem wc_lenAsT {α β : Type} {g : α → List Key} {f : β → D} {es : List (α × β)} [sd : SeeDT M R d (asK g f es)] (q : Q (.int (es.length : Int)) ⟨sl, M, R⟩) : WC X F (.builtin "len") [d] ⟨sl, M, R⟩ Q := wc_lenT (by unfold asK; rw [List.length_map]; exact q)
variable {K : List D → (DL.Env → Prop) → DL.Env → Prop} {tg : Expr}
/-- the keys of a dict, walked -/
theorem wiv_asK {α β : Type} {g : α → Key} {f : β → D} {fk : α → D} {es : List (α × β)} {j : Nat} [kf : KeyFor g fk] [lk : Lk F p] [r : At R p (.dK (asK g f es)) j] (h : K ((es.map (·.1)).map fk) (fun Γ' => Γ'.R = R) ⟨sl, M, R⟩) : WIV X F tg (.ref p) ⟨sl, M, R⟩ K := by
  refine wiv_keys (kds := asK g f es) ?_
  have e : ((asK g f es).map fun kd => kD kd.1) = (es.map (·.1)).map fk := by
    unfold asK
    rw [List.map_map, List.map_map]
    exact List.map_congr_left fun x _ => (kf.e x.1).symm
  rw [e]; exact h
end
end DL

namespace K18
open PySem PySem.Spec PyProof.Rows L2 DL
def topS (i : Nat) : Stmt := PySem.Challenge.pw_whatcomesfree_k18_records_and_entries.main.body.getD i (.Pass ⟨0, 0, 0, 0⟩)
abbrev s_chunks : Stmt := topS 2
abbrev N_chunks : List Str := ["text", "size", "k"]
theorem sc_chunks : FnScope N_chunks ["text", "size"] (defScope s_chunks) := ⟨rfl, rfl, rfl, by decide +kernel, rfl, by decide +kernel, by decide +kernel⟩
abbrev s_refs : Stmt := topS 3
abbrev N_refs : List Str := ["record", "item"]
theorem sc_refs : FnScope N_refs ["record"] (defScope s_refs) := ⟨rfl, rfl, rfl, by decide +kernel, rfl, by decide +kernel, by decide +kernel⟩
abbrev s_find_entry : Stmt := topS 4
abbrev N_find_entry : List Str := ["record", "word", "name", "slot"]
theorem sc_find_entry : FnScope N_find_entry ["record", "word"] (defScope s_find_entry) := ⟨rfl, rfl, rfl, by decide +kernel, rfl, by decide +kernel, by decide +kernel⟩
abbrev s_with_entry : Stmt := topS 5
abbrev N_with_entry : List Str := ["entries", "word", "slot", "kept", "entry"]
theorem sc_with_entry : FnScope N_with_entry ["entries", "word", "slot"] (defScope s_with_entry) := ⟨rfl, rfl, rfl, by decide +kernel, rfl, by decide +kernel, by decide +kernel⟩
abbrev s_without_entry : Stmt := topS 6
abbrev N_without_entry : List Str := ["entries", "word", "entry"]
theorem sc_without_entry : FnScope N_without_entry ["entries", "word"] (defScope s_without_entry) := ⟨rfl, rfl, rfl, by decide +kernel, rfl, by decide +kernel, by decide +kernel⟩
abbrev s_law_mix : Stmt := topS 8
abbrev N_law_mix : List Str := ["number"]
theorem sc_law_mix : FnScope N_law_mix ["number"] (defScope s_law_mix) := ⟨rfl, rfl, rfl, by decide +kernel, rfl, by decide +kernel, by decide +kernel⟩
abbrev s_law_start : Stmt := topS 9
abbrev N_law_start : List Str := ["script"]
theorem sc_law_start : FnScope N_law_start ["script"] (defScope s_law_start) := ⟨rfl, rfl, rfl, by decide +kernel, rfl, by decide +kernel, by decide +kernel⟩
abbrev s_law_next : Stmt := topS 10
abbrev N_law_next : List Str := ["state", "limit", "number", "drawn"]
theorem sc_law_next : FnScope N_law_next ["state", "limit"] (defScope s_law_next) := ⟨rfl, rfl, rfl, by decide +kernel, rfl, by decide +kernel, by decide +kernel⟩
abbrev s_law_is : Stmt := topS 11
abbrev N_law_is : List Str := ["told", "due", "key", "k"]
theorem sc_law_is : FnScope N_law_is ["told", "due"] (defScope s_law_is) := ⟨rfl, rfl, rfl, by decide +kernel, rfl, by decide +kernel, by decide +kernel⟩
abbrev s_law_names : Stmt := topS 12
abbrev N_law_names : List Str := ["state", "many", "letters", "signs", "names", "k", "word", "j"]
theorem sc_law_names : FnScope N_law_names ["state", "many"] (defScope s_law_names) := ⟨rfl, rfl, rfl, by decide +kernel, rfl, by decide +kernel, by decide +kernel⟩
abbrev s_law_text : Stmt := topS 13
abbrev N_law_text : List Str := ["state", "most", "signs", "k"]
theorem sc_law_text : FnScope N_law_text ["state", "most"] (defScope s_law_text) := ⟨rfl, rfl, rfl, by decide +kernel, rfl, by decide +kernel, by decide +kernel⟩
abbrev s_law_entries : Stmt := topS 14
abbrev N_law_entries : List Str := ["table", "word"]
theorem sc_law_entries : FnScope N_law_entries ["table"] (defScope s_law_entries) := ⟨rfl, rfl, rfl, by decide +kernel, rfl, by decide +kernel, by decide +kernel⟩
abbrev s_law_told_refs : Stmt := topS 15
abbrev N_law_told_refs : List Str := ["record", "first", "kept"]
theorem sc_law_told_refs : FnScope N_law_told_refs ["record"] (defScope s_law_told_refs) := ⟨rfl, rfl, rfl, by decide +kernel, rfl, by decide +kernel, by decide +kernel⟩
abbrev s_law_folder : Stmt := topS 16
abbrev N_law_folder : List Str := ["table", "words", "serial", "record", "word"]
theorem sc_law_folder : FnScope N_law_folder ["table", "words", "serial"] (defScope s_law_folder) := ⟨rfl, rfl, rfl, by decide +kernel, rfl, by decide +kernel, by decide +kernel⟩
abbrev s_law_file : Stmt := topS 17
abbrev N_law_file : List Str := ["state", "serial", "slots", "rows", "at", "k", "first", "many", "due", "row"]
theorem sc_law_file : FnScope N_law_file ["state", "serial"] (defScope s_law_file) := ⟨rfl, rfl, rfl, by decide +kernel, rfl, by decide +kernel, by decide +kernel⟩
abbrev s_law_pieces : Stmt := topS 18
abbrev N_law_pieces : List Str := ["text", "many", "due", "k"]
theorem sc_law_pieces : FnScope N_law_pieces ["text"] (defScope s_law_pieces) := ⟨rfl, rfl, rfl, by decide +kernel, rfl, by decide +kernel, by decide +kernel⟩
abbrev s_law : Stmt := topS 19
abbrev N_law : List Str := ["script", "state", "words", "turns", "texts", "table", "k", "word", "slot", "entries", "told", "text"]
theorem sc_law : FnScope N_law ["script"] (defScope s_law) := ⟨rfl, rfl, rfl, by decide +kernel, rfl, by decide +kernel, by decide +kernel⟩
structure Tx (mg : Str → Option Value) : Prop where
  z_abs : mg "abs" = none
  z_all : mg "all" = none
  z_bool : mg "bool" = none
  z_dict : mg "dict" = none
  z_int : mg "int" = none
  z_isinstance : mg "isinstance" = none
  z_len : mg "len" = none
  z_list : mg "list" = none
  z_range : mg "range" = none
  z_set : mg "set" = none
  z_sorted : mg "sorted" = none
  z_str : mg "str" = none
  z_tuple : mg "tuple" = none
  k_CHUNK : ∃ u, mg "CHUNK" = some u ∧ RelV (.int 4) u
theorem bo_abs : bootBuiltins "abs" = some (.builtin "abs") := by first | exact PySem.boot_abs | exact PyProof.Rows.boot_abs | decide +kernel
theorem bo_all : bootBuiltins "all" = some (.builtin "all") := by first | exact PySem.boot_all | exact PyProof.Rows.boot_all | decide +kernel
theorem bo_bool : bootBuiltins "bool" = some (.type "bool") := by first | exact PySem.boot_bool | exact PyProof.Rows.boot_bool | decide +kernel
theorem bo_dict : bootBuiltins "dict" = some (.type "dict") := by first | exact PySem.boot_dict | exact PyProof.Rows.boot_dict | decide +kernel
theorem bo_int : bootBuiltins "int" = some (.type "int") := by first | exact PySem.boot_int | exact PyProof.Rows.boot_int | decide +kernel
theorem bo_isinstance : bootBuiltins "isinstance" = some (.builtin "isinstance") := by first | exact PySem.boot_isinstance | exact PyProof.Rows.boot_isinstance | decide +kernel
theorem bo_len : bootBuiltins "len" = some (.builtin "len") := by first | exact PySem.boot_len | exact PyProof.Rows.boot_len | decide +kernel
theorem bo_list : bootBuiltins "list" = some (.type "list") := by first | exact PySem.boot_list | exact PyProof.Rows.boot_list | decide +kernel
theorem bo_range : bootBuiltins "range" = some (.type "range") := by first | exact PySem.boot_range | exact PyProof.Rows.boot_range | decide +kernel
theorem bo_set : bootBuiltins "set" = some (.type "set") := by first | exact PySem.boot_set | exact PyProof.Rows.boot_set | decide +kernel
theorem bo_sorted : bootBuiltins "sorted" = some (.builtin "sorted") := by first | exact PySem.boot_sorted | exact PyProof.Rows.boot_sorted | decide +kernel
theorem bo_str : bootBuiltins "str" = some (.type "str") := by first | exact PySem.boot_str | exact PyProof.Rows.boot_str | decide +kernel
theorem bo_tuple : bootBuiltins "tuple" = some (.type "tuple") := by first | exact PySem.boot_tuple | exact PyProof.Rows.boot_tuple | decide +kernel
end K18


namespace K18
open PySem PySem.Spec PyProof.Rows L2 DL
local macro_rules | `(tactic| row_cond dcall) => `(tactic| first
  | ((with_reducible refine' we_callX (x := "chunks") ?c ?x ?j ?g ?d ?e ?p ?_); (case c => assumption); (case x => assumption); (case j => first | decide | exact Nat.le_refl _ | omega); (case g => assumption); (case d => decide); (case e => rfl); (case p => rfl))
  | ((with_reducible refine' we_callK (x := "chunks") ?c ?x ?j ?g ?a ?k ?d ?e ?p ?_); (case c => assumption); (case x => assumption); (case j => first | decide | exact Nat.le_refl _ | omega); (case g => assumption); (case a => rfl); (case k => rfl); (case d => decide); (case e => rfl); (case p => rfl))
  | ((with_reducible refine' we_call (x := "refs") ?c ?x ?j ?g ?d ?e ?p ?_); (case c => assumption); (case x => assumption); (case j => first | decide | exact Nat.le_refl _ | omega); (case g => assumption); (case d => decide); (case e => rfl); (case p => rfl))
  | ((with_reducible refine' we_call (x := "find_entry") ?c ?x ?j ?g ?d ?e ?p ?_); (case c => assumption); (case x => assumption); (case j => first | decide | exact Nat.le_refl _ | omega); (case g => assumption); (case d => decide); (case e => rfl); (case p => rfl))
  | ((with_reducible refine' we_call (x := "with_entry") ?c ?x ?j ?g ?d ?e ?p ?_); (case c => assumption); (case x => assumption); (case j => first | decide | exact Nat.le_refl _ | omega); (case g => assumption); (case d => decide); (case e => rfl); (case p => rfl))
  | ((with_reducible refine' we_call (x := "without_entry") ?c ?x ?j ?g ?d ?e ?p ?_); (case c => assumption); (case x => assumption); (case j => first | decide | exact Nat.le_refl _ | omega); (case g => assumption); (case d => decide); (case e => rfl); (case p => rfl))
  | ((with_reducible refine' we_call (x := "_law_mix") ?c ?x ?j ?g ?d ?e ?p ?_); (case c => assumption); (case x => assumption); (case j => first | decide | exact Nat.le_refl _ | omega); (case g => assumption); (case d => decide); (case e => rfl); (case p => rfl))
  | ((with_reducible refine' we_call (x := "_law_start") ?c ?x ?j ?g ?d ?e ?p ?_); (case c => assumption); (case x => assumption); (case j => first | decide | exact Nat.le_refl _ | omega); (case g => assumption); (case d => decide); (case e => rfl); (case p => rfl))
  | ((with_reducible refine' we_call1 (x := "_law_next") ?c ?x ?j ?g ?d ?e ?p ?_); (case c => assumption); (case x => assumption); (case j => first | decide | exact Nat.le_refl _ | omega); (case g => assumption); (case d => decide); (case e => rfl); (case p => rfl))
  | ((with_reducible refine' we_call (x := "_law_is") ?c ?x ?j ?g ?d ?e ?p ?_); (case c => assumption); (case x => assumption); (case j => first | decide | exact Nat.le_refl _ | omega); (case g => assumption); (case d => decide); (case e => rfl); (case p => rfl))
  | ((with_reducible refine' we_call1 (x := "_law_names") ?c ?x ?j ?g ?d ?e ?p ?_); (case c => assumption); (case x => assumption); (case j => first | decide | exact Nat.le_refl _ | omega); (case g => assumption); (case d => decide); (case e => rfl); (case p => rfl))
  | ((with_reducible refine' we_call1 (x := "_law_text") ?c ?x ?j ?g ?d ?e ?p ?_); (case c => assumption); (case x => assumption); (case j => first | decide | exact Nat.le_refl _ | omega); (case g => assumption); (case d => decide); (case e => rfl); (case p => rfl))
  | ((with_reducible refine' we_call (x := "_law_entries") ?c ?x ?j ?g ?d ?e ?p ?_); (case c => assumption); (case x => assumption); (case j => first | decide | exact Nat.le_refl _ | omega); (case g => assumption); (case d => decide); (case e => rfl); (case p => rfl))
  | ((with_reducible refine' we_call (x := "_law_told_refs") ?c ?x ?j ?g ?d ?e ?p ?_); (case c => assumption); (case x => assumption); (case j => first | decide | exact Nat.le_refl _ | omega); (case g => assumption); (case d => decide); (case e => rfl); (case p => rfl))
  | ((with_reducible refine' we_call (x := "_law_folder") ?c ?x ?j ?g ?d ?e ?p ?_); (case c => assumption); (case x => assumption); (case j => first | decide | exact Nat.le_refl _ | omega); (case g => assumption); (case d => decide); (case e => rfl); (case p => rfl))
  | ((with_reducible refine' we_call1 (x := "_law_file") ?c ?x ?j ?g ?d ?e ?p ?_); (case c => assumption); (case x => assumption); (case j => first | decide | exact Nat.le_refl _ | omega); (case g => assumption); (case d => decide); (case e => rfl); (case p => rfl))
  | ((with_reducible refine' we_call (x := "_law_pieces") ?c ?x ?j ?g ?d ?e ?p ?_); (case c => assumption); (case x => assumption); (case j => first | decide | exact Nat.le_refl _ | omega); (case g => assumption); (case d => decide); (case e => rfl); (case p => rfl))
  | ((with_reducible refine' we_call (x := "law") ?c ?x ?j ?g ?d ?e ?p ?_); (case c => assumption); (case x => assumption); (case j => first | decide | exact Nat.le_refl _ | omega); (case g => assumption); (case d => decide); (case e => rfl); (case p => rfl)))
/-! the steps: one line a construct -/
local macro_rules | `(tactic| row_cond dlen) => `(tactic| (intro ds M R Q h; first | (obtain ⟨h1, _⟩ := h; subst h1; rfl) | (obtain ⟨_, h1, _⟩ := h; subst h1; rfl) | (obtain ⟨_, _, h1, _⟩ := h; subst h1; rfl) | (obtain ⟨_, _, _, h1, _⟩ := h; subst h1; rfl) | (obtain ⟨_, _, _, _, h1, _⟩ := h; subst h1; rfl) | (obtain ⟨_, _, _, _, _, h1, _⟩ := h; subst h1; rfl) | (obtain ⟨_, _, _, _, _, _, h1, _⟩ := h; subst h1; rfl) | (obtain ⟨_, _, _, _, _, _, _, h1, _⟩ := h; subst h1; rfl) | (obtain ⟨_, _, _, _, _, _, _, _, h1, _⟩ := h; subst h1; rfl) | (obtain ⟨_, _, _, _, _, _, _, _, _, h1, _⟩ := h; subst h1; rfl) | (obtain ⟨_, _, _, _, _, _, _, _, _, _, h1, _⟩ := h; subst h1; rfl) | (obtain ⟨_, _, _, _, _, _, _, _, _, _, _, h1, _⟩ := h; subst h1; rfl) | (obtain ⟨_, _, _, _, _, _, _, _, _, _, _, _, h1, _⟩ := h; subst h1; rfl)))
local macro_rules | `(tactic| row_cond dsz) => `(tactic| first | exact Nat.le_of_ble_eq_true rfl | assumption | (simp only [List.length_map, List.length_cons, List.length_append, List.length_nil, List.length_reverse, List.length_take, List.length_drop, PySem.sizeLine]; omega))
/- expressions -/
local macro_rules | `(tactic| row_cond dE) => `(tactic| first
  | ((with_reducible refine' we_name ?n ?e ?_); (case n => assumption); (case e => rfl))
  | (with_reducible refine we_int ?_)
  | (with_reducible refine we_bl ?_)
  | (with_reducible refine we_str ?_)
  | (with_reducible refine we_non ?_)
  | (with_reducible refine we_bin ?_)
  | ((with_reducible refine' we_cmp ?n ?_); (case n => rfl))
  | (with_reducible refine we_slice ?_)
  | (with_reducible refine we_rev ?_)
  | ((with_reducible refine' we_ix ?n ?_); (case n => exact fun _ _ => rfl))
  | (with_reducible refine we_tupV ?_)
  | (with_reducible refine we_lstV ?_)
  | ((with_reducible refine' we_blt ?b ?n ?m ?_); (case b => assumption); (case n => rfl); (case m => rfl))
  | ((with_reducible refine' we_typ ?b ?n ?m ?_); (case b => assumption); (case n => rfl); (case m => rfl))
  | ((with_reducible refine' we_tyName ?b ?_); (case b => assumption))
  | (with_reducible refine we_one ?_)
  | (with_reducible refine we_and ?_)
  | (with_reducible refine we_or ?_)
  | (with_reducible refine we_not ?_)
  | (with_reducible refine we_ifexp ?_)
  | ((with_reducible refine' we_un ?n ?_); (case n => exact fun z => nomatch z))
  | row_cond dcall
  | ((with_reducible refine we_bm (T := "list") PySem.F.plainAttrs_list PySem.F.slot_list_append PySem.F.type_list_append ?a ?b ?c ?d ?e ?_); (case a => rfl); (case b => rfl); (case c => rfl); (case d => rfl); (case e => rfl))
  | ((with_reducible refine we_bm0 (T := "list") PySem.F.plainAttrs_list PySem.F.slot_list_pop PySem.F.type_list_pop ?a ?b ?_); (case a => rfl); (case b => rfl))
  | ((with_reducible refine we_bm (T := "list") PySem.F.plainAttrs_list PySem.F.slot_list_extend PySem.F.type_list_extend ?a ?b ?c ?d ?e ?_); (case a => rfl); (case b => rfl); (case c => rfl); (case d => rfl); (case e => rfl)))
/- tests -/
local macro_rules | `(tactic| row_cond dT) => `(tactic| first
  | ((with_reducible refine' wt_cmp ?n ?_); (case n => rfl))
  | (with_reducible refine wt_not ?_)
  | (with_reducible refine wt_bool ?_)
  | (with_reducible refine ww_and1 ?_)
  | (with_reducible refine ww_or1 ?_)
  | (with_reducible refine ww_and ?_)
  | (with_reducible refine ww_or ?_)
  | ((with_reducible refine' wt_val ?n ?_); (case n => exact fun _ => rfl)))
/- statements -/
local macro_rules | `(tactic| row_cond dS) => `(tactic| first
  | (with_reducible refine wss_cons ?_)
  | (with_reducible refine wss_nil ?_)
  | ((with_reducible refine' ws_set ?a ?n ?h ?_); (case a => assumption); (case n => assumption); (case h => rfl))
  | ((with_reducible refine' ws_sub ?h ?_); (case h => rfl))
  | ((with_reducible refine' ws_asg ?a ?n ?h ?_); (case a => rfl); (case n => rfl); (case h => rfl))
  | (with_reducible refine ws_if ?_)
  | row_cond dret
  | ((with_reducible refine' ws_expr ?h ?_); (case h => rfl))
  | (with_reducible refine ws_pass ?_)
  | (with_reducible refine ws_break ?_)
  | (with_reducible refine ws_continue ?_)
  | (with_reducible refine ws_retN ?_))
local macro_rules | `(tactic| row_cond dSn) => `(tactic| first
  | (with_reducible refine wss_cons ?_)
  | (with_reducible refine wss_nil ?_)
  | ((with_reducible refine' ws_set ?a ?n ?h ?_); (case a => assumption); (case n => assumption); (case h => rfl))
  | ((with_reducible refine' ws_sub ?h ?_); (case h => rfl))
  | ((with_reducible refine' ws_asg ?a ?n ?h ?_); (case a => rfl); (case n => rfl); (case h => rfl))
  | row_cond dret
  | ((with_reducible refine' ws_expr ?h ?_); (case h => rfl))
  | (with_reducible refine ws_pass ?_)
  | (with_reducible refine ws_break ?_)
  | (with_reducible refine ws_continue ?_)
  | (with_reducible refine ws_retN ?_))
/- arguments, targets, values -/
local macro_rules | `(tactic| row_cond dV) => `(tactic| first
  | (with_reducible refine wa_nil ?_)
  | ((with_reducible refine' wa_cons ?n ?_); (case n => rfl))
  | (with_reducible refine wav_nil ?_)
  | ((with_reducible refine' wav_cons ?n ?_); (case n => rfl))
  | (with_reducible refine put_go ?_)
  | (with_reducible refine fz_lst ?_)
  | (with_reducible refine fz_tup ?_)
  | (with_reducible refine fz_id ?_)
  | (with_reducible refine own0_go ?_)
  | (with_reducible refine own1_go ?_)
  | (with_reducible refine app_go ?_)
  | (with_reducible refine mset_go ?_)
  | ((with_reducible refine' wg_name ?a ?n ?_); (case a => assumption); (case n => assumption))
  | ((with_reducible refine' wg_tup ?a ?n ?h ?_); (case a => assumption); (case n => rfl); (case h => rfl))
  | (with_reducible refine wgs_nil ?_)
  | ((with_reducible refine' wgs_cons ?n ?_); (case n => rfl))
  | (with_reducible refine wpt_none ?_)
  | (with_reducible refine wpt_some ?_)
  | ((with_reducible refine' wset_list ?n ?_); (case n => first | rfl | row_cond dix)))
/- what is walked -/
local macro_rules | `(tactic| row_cond dI) => `(tactic| first
  | ((with_reducible refine' wi_range1 ?a ?b ?c ?_); (case a => exact BltAt.gl (by assumption)); (case b => exact BltAt.mg (by assumption)); (case c => rfl))
  | ((with_reducible refine' wi_range2 ?a ?b ?c ?d ?_); (case a => exact BltAt.gl (by assumption)); (case b => exact BltAt.mg (by assumption)); (case c => rfl); (case d => rfl))
  | (with_reducible refine wi_val ?_)
  | (with_reducible refine wiv_list ?_)
  | (with_reducible refine wiv_tup ?_)
  | ((with_reducible refine' wgc_name ?a ?n ?h ?_); (case a => assumption); (case n => assumption); (case h => decide))
  | ((with_reducible refine' wgc_tup ?a ?n ?h ?_); (case a => assumption); (case n => rfl); (case h => rfl))
  | (with_reducible refine wgcs_nil ?_)
  | ((with_reducible refine' wgcs_cons ?n ?_); (case n => rfl))
  | (with_reducible refine wts_nil ?_)
  | (with_reducible refine wts_one ?_))
/- operations by values -/
local macro_rules | `(tactic| row_cond dO) => `(tactic| first
  | (with_reducible refine wo_add ?_)
  | (with_reducible refine wo_sub ?_)
  | ((with_reducible refine' wo_mulS ?n ?_); (case n => first | exact .inr ⟨by decide, by decide⟩ | exact .inl ⟨by decide, by decide⟩ | exact .inr ⟨by omega, by omega⟩ | exact .inl ⟨by omega, by omega⟩))
  | ((with_reducible refine' wo_fdiv ?n ?m ?_); (case n => first | decide | omega); (case m => first | decide | row_cond dlog))
  | ((with_reducible refine' wo_mod ?n ?_); (case n => first | decide | omega))
  | (with_reducible refine wo_powL ?_)
  | ((with_reducible refine' wo_pow ?n ?_); (case n => exact ⟨by decide, by decide, by decide⟩))
  | (with_reducible refine wo_xor ?_)
  | (with_reducible refine wo_lt ?_)
  | (with_reducible refine wo_le ?_)
  | (with_reducible refine wo_gt ?_)
  | (with_reducible refine wo_ge ?_)
  | (with_reducible refine wo_eqI ?_)
  | (with_reducible refine wo_neI ?_)
  | (with_reducible refine wo_eqS ?_)
  | (with_reducible refine wo_neS ?_)
  | (with_reducible refine wo_isN ?_)
  | (with_reducible refine wo_isnotN ?_)
  | (with_reducible refine wu_neg ?_)
  | (with_reducible refine wc_int ?_)
  | (with_reducible refine wc_intB ?_)
  | (with_reducible refine wc_abs ?_)
  | ((with_reducible refine' wc_max2 ?a ?_); (case a => assumption))
  | ((with_reducible refine' wc_min2 ?a ?_); (case a => assumption))
  | (with_reducible refine wc_list ?_)
  | (with_reducible refine wc_tuple ?_)
  | ((with_reducible refine' wc_lenS ?a ?_); (case a => row_cond dsz))
  | (with_reducible refine wc_lenM ?_)
  | (with_reducible refine wc_len ?_)
  | (with_reducible refine wc_isK ?_)
  | ((with_reducible refine' wc_allM ?a ?_); (case a => assumption))
  | ((with_reducible refine' wc_anyM ?a ?_); (case a => assumption))
  | ((with_reducible refine' wc_sum ?a ?_); (case a => assumption))
  | ((with_reducible refine' wx_list ?n ?_); (case n => row_cond dat))
  | ((with_reducible refine' wx_map ?a ?b ?_); (case a => omega); (case b => omega))
  | ((with_reducible refine' wx_seq ?a ?b ?_); (case a => omega); (case b => omega))
  | ((with_reducible refine' wx_tup ?n ?_); (case n => row_cond dat))
  | (with_reducible refine wsl_listM ?_)
  | (with_reducible refine wsl_list ?_)
  | (with_reducible refine wrev_goM ?_)
  | (with_reducible refine wrev_go ?_)
  | ((with_reducible refine' wo_catM ?n ?_); (case n => row_cond dsz))
  | ((with_reducible refine' wo_cat ?n ?_); (case n => row_cond dsz))
  | ((with_reducible refine' wm_append ?n ?_); (case n => row_cond dsz)))
local macro_rules | `(tactic| row_cond dat) => `(tactic| rfl)
local macro_rules | `(tactic| row_cond dix) => `(tactic| rfl)
local macro_rules | `(tactic| row_cond dlog) => `(tactic| first | decide | exact log_small (by omega) (by omega))
/- what stands between -/
local macro_rules | `(tactic| row_cond dQ) => `(tactic| first
  | (with_reducible refine ⟨_, rfl, ?_⟩)
  | (with_reducible refine br_true ?_)
  | (with_reducible refine br_false ?_)
  | (with_reducible refine rb_true ?_)
  | (with_reducible refine rb_false ?_)
  | ((with_reducible refine' br_dec ?_ ?_) <;> intro _)
  | ((with_reducible refine' br_ndec ?_ ?_) <;> intro _)
  | ((with_reducible refine' rb_dec ?_ ?_) <;> intro _)
  | ((with_reducible refine' rb_ndec ?_ ?_) <;> intro _)
  | (refine br_is rfl ?_)
  | (refine br_isnot rfl ?_)
  | (refine rb_is rfl ?_)
  | (refine rb_isnot rfl ?_)
  | ((with_reducible refine' ⟨⟨?a, ?b⟩, ?_⟩); (case a => omega); (case b => omega))
  | ((with_reducible refine' ⟨⟨?a, ?b, ?c, ?d⟩, ?_⟩); (case a => omega); (case b => omega); (case c => omega); (case d => omega))
  | (with_reducible refine app_go ?_)
  | (with_reducible refine ⟨tym_list, ?_⟩)
  | (with_reducible refine ⟨tym_str, ?_⟩)
  | ((with_reducible refine ⟨?n, ?_⟩); (case n => (show _ ≤ PySem.sizeLine); row_cond dsz))
  | (with_reducible intro _))
local macro_rules | `(tactic| row_cond dstart) => `(tactic| simp only [startD, List.map_cons, List.map_nil, List.length_cons, List.length_nil, List.cons_append, List.nil_append, Nat.zero_add, Nat.reduceAdd, Nat.reduceSub, List.replicate_succ, List.replicate_zero])
local macro_rules | `(tactic| row_cond d) => `(tactic| first | row_cond dE | row_cond dV | row_cond dO | row_cond dT | row_cond dS | row_cond dI | row_cond dmore | row_cond dspec | row_cond dQ)
local macro_rules | `(tactic| row_cond dn) => `(tactic| first | row_cond dE | row_cond dV | row_cond dO | row_cond dT | row_cond dSn | row_cond dI | row_cond dmore | row_cond dspec | row_cond dQ)
local macro_rules | `(tactic| row_cond gon) => `(tactic| repeat' (row_cond dn))
local macro_rules | `(tactic| row_cond go) => `(tactic| repeat' (row_cond d))
/- the later parts of the layer -/
local macro_rules | `(tactic| row_cond dE) => `(tactic| first
  | ((with_reducible refine' we_sortedSet ?a ?b ?c ?d ?e ?_); (case a => assumption); (case b => assumption); (case c => assumption); (case d => rfl); (case e => rfl))
  | ((with_reducible refine' we_get2 ?a ?b ?_); (case a => assumption); (case b => exact ⟨rfl, rfl, rfl, rfl⟩))
  | ((with_reducible refine' we_get1 ?a ?b ?_); (case a => assumption); (case b => exact ⟨rfl, rfl, rfl, rfl⟩))
  | ((with_reducible refine' we_pop1 ?b ?_); (case b => exact ⟨rfl, rfl, rfl, rfl⟩)))
local macro_rules | `(tactic| row_cond dO) => `(tactic| first
  | ((with_reducible refine' wc_sorted ?a ?b ?c ?_); (case a => assumption); (case b => decide); (case c => first | exact fun _ _ => trivial | assumption))
  | ((with_reducible refine' wsorted_go ?a ?_); (case a => first | assumption | omega))
  | ((with_reducible refine' wo_inD ?a ?b ?_); (case a => assumption); (case b => decide))
  | ((with_reducible refine' wo_ninD ?a ?b ?_); (case a => assumption); (case b => decide))
  | (with_reducible refine getD_K ?_)
  | (with_reducible refine getD_T ?_)
  | ((with_reducible refine' wsl_txt ?a ?_); (case a => row_cond dsz))
  | ((with_reducible refine' wx_strN ?a ?b ?c ?_); (case a => row_cond dsz); (case b => omega); (case c => first | omega | (simp only [PySem.Str.length]; omega)))
  | (with_reducible refine ⟨isDD_K, ?_⟩)
  | (with_reducible refine ⟨isDD_T, ?_⟩))
local macro_rules | `(tactic| row_cond dO) => `(tactic| first
  | ((with_reducible refine' wm_appendM ?n ?_); (case n => row_cond dsz)))
local macro_rules | `(tactic| row_cond dE) => `(tactic| ((with_reducible refine' we_con ?c ?_); (case c => assumption)))
local macro_rules | `(tactic| row_cond dV) => `(tactic| first
  | (with_reducible refine wk_nil ?_)
  | (with_reducible refine wk_cons ?_)
  | (with_reducible refine ⟨rfl, rfl, ?_⟩))
local macro_rules | `(tactic| row_cond dI) => `(tactic| ((with_reducible refine' wi_range3 ?a ?b ?c ?d ?_); (case a => exact BltAt.gl (by assumption)); (case b => exact BltAt.mg (by assumption)); (case c => rfl); (case d => rfl)))
local macro_rules | `(tactic| row_cond dO) => `(tactic| first
  | ((with_reducible refine' wc_lenS ?a ?_); (case a => row_cond dsz)))
local macro_rules | `(tactic| row_cond dO) => `(tactic| first
  | ((with_reducible refine' wo_addS ?a ?_); (case a => row_cond dsz)))
local macro_rules | `(tactic| row_cond dO) => `(tactic| first
  | ((with_reducible refine' wo_addS2 ?a ?_); (case a => first | decide | omega))
  | ((with_reducible refine' wsl_txt2 ?a ?_); (case a => first | decide | omega))
  | ((with_reducible refine' wc_lenS2 ?a ?_); (case a => first | decide | omega)))
local macro_rules | `(tactic| row_cond dE) => `(tactic| first
  | ((with_reducible refine we_bm (T := "str") PySem.F.plainAttrs_str PySem.F.slot_str_index PySem.F.type_str_index ?a ?b ?c ?d ?e ?_); (case a => rfl); (case b => rfl); (case c => rfl); (case d => rfl); (case e => rfl))
  | ((with_reducible refine we_bm (T := "str") PySem.F.plainAttrs_str PySem.F.slot_str_join PySem.F.type_str_join ?a ?b ?c ?d ?e ?_); (case a => rfl); (case b => rfl); (case c => rfl); (case d => rfl); (case e => rfl))
  | ((with_reducible refine we_bm (T := "str") PySem.F.plainAttrs_str PySem.F.slot_str_startswith PySem.F.type_str_startswith ?a ?b ?c ?d ?e ?_); (case a => rfl); (case b => rfl); (case c => rfl); (case d => rfl); (case e => rfl)))
local macro_rules | `(tactic| row_cond dO) => `(tactic| first
  | (with_reducible refine wm_starts ?_))
local macro_rules | `(tactic| row_cond dret) => `(tactic| (with_reducible refine ws_ret ?_))
local macro_rules | `(tactic| row_cond dO) => `(tactic| first
  | ((with_reducible refine' wx_asK ?a ?b ?_); (case a => assumption); (case b => assumption))
  | ((with_reducible refine' wo_inAsK ?a ?_); (case a => assumption))
  | ((with_reducible refine' wo_ninAsK ?a ?_); (case a => assumption))
  | ((with_reducible refine' wset_asK ?a ?b ?_); (case a => assumption); (case b => row_cond dsz))
  | (with_reducible refine getD_asK ?_)
  | ((with_reducible refine' popD_asK ?b ?_); (case b => assumption))
  | ((with_reducible refine' wx_asT ?a ?b ?_); (case a => assumption); (case b => assumption))
  | ((with_reducible refine' wo_inAsT ?a ?_); (case a => assumption))
  | ((with_reducible refine' wo_ninAsT ?a ?_); (case a => assumption))
  | ((with_reducible refine' wset_asT ?a ?b ?_); (case a => assumption); (case b => row_cond dsz))
  | (with_reducible refine getD_asT ?_)
  | ((with_reducible refine' wc_sortedAs ?a ?_); (case a => assumption)))
local macro_rules | `(tactic| row_cond dO) => `(tactic| first
  | (with_reducible refine wc_lenAsK ?_)
  | (with_reducible refine wc_lenAsT ?_))
local macro_rules | `(tactic| row_cond dI) => `(tactic| first
  | (with_reducible refine wiv_asK ?_))

/-! ### the draws -/
theorem xor_lt {a b : Int} (ha : 0 ≤ a) (hb : 0 ≤ b) (h1 : a < 2 ^ 64) (h2 : b < 2 ^ 64) : 0 ≤ Builtin.bitXor a b ∧ Builtin.bitXor a b < 2 ^ 64 := by
  refine ⟨Bits.bitXor_nonneg ha hb, ?_⟩
  rw [Bits.bitXor_pp ha hb]
  have := Nat.xor_lt_two_pow (x := a.toNat) (y := b.toNat) (n := 64) (by omega) (by omega)
  omega
def sp_law_mix : SpD := fun ds M _ Q => ∃ n, ds = [.int n] ∧ M = [] ∧ ∀ r : Int, 0 ≤ r → r < 2 ^ 64 → Q (.int r) []
theorem cal_law_mix {P : Program} {w : World} {K : PySem.W.Frag} {mg : Str → Option Value} {base : Heap} (T : Tx mg) (Da : DefAt K mg "_law_mix" s_law_mix)  : Cal P w K mg base (1) "_law_mix" sp_law_mix := by
  refine calD (k := 0) Da sc_law_mix (fun f fd Fu => Fu.binds fun _ _ _ _ _ _ us hl => match us, hl with | [_], _ => rfl) (by row_cond dlen) (fun X F hX nm ds M R Q hS => ?_)
  have hst := hX.std
  have n_number : NameAt X 0 "number" := nm.name rfl (.inl rfl) (by decide) (by decide)
  have s_number : StoreAt X 0 "number" := nm.store rfl (.inl rfl)
  have b_int : BltAt X "int" (.type "int") := nm.blt hX rfl T.z_int bo_int (by decide) (by decide)
  obtain ⟨n, rfl, rfl, hq⟩ := hS
  row_cond dstart
  refine wss_cons ?_
  row_cond go
  refine rt0 ?_
  have h1 := Int.emod_nonneg (n * 6364136223846793005 + 1442695040888963407) (show (18446744073709551616 : Int) ≠ 0 by decide)
  have h2 := Int.emod_lt_of_pos (n * 6364136223846793005 + 1442695040888963407) (show (0 : Int) < 18446744073709551616 by decide)
  generalize (n * 6364136223846793005 + 1442695040888963407) % 18446744073709551616 = a at *
  have h3 := Int.emod_nonneg (Builtin.bitXor a (a / 536870912) * 3935559000370003845 + 2691343689449507681) (show (18446744073709551616 : Int) ≠ 0 by decide)
  have h4 := Int.emod_lt_of_pos (Builtin.bitXor a (a / 536870912) * 3935559000370003845 + 2691343689449507681) (show (0 : Int) < 18446744073709551616 by decide)
  generalize (Builtin.bitXor a (a / 536870912) * 3935559000370003845 + 2691343689449507681) % 18446744073709551616 = b at *
  have h5 := xor_lt (a := b) (b := b / 4294967296) h3 (by omega) (by omega) (by omega)
  exact hq _ h5.1 h5.2
/-- a state of the draws -/
def DrawSt (d : D) : Prop := ∃ (ns : List Int) (i n c : Int), d = .lst [.lst (ns.map D.int), .int i, .int n, .int c] ∧ ns.length ≤ 63 ∧ 0 ≤ i ∧ 0 ≤ n
def sp_law_next : SpD := fun ds M _ Q => ∃ (p : Addr) (st : D) (lim : Int), ds = [.ref p, .int lim] ∧ M = [(p, st)] ∧ DrawSt st ∧ 0 < lim ∧ lim < 2 ^ 200 ∧ ∀ (r : Int) (st' : D), 0 ≤ r → r < lim → DrawSt st' → Q (.int r) [(p, st')]
theorem sp_law_mix_go {n : Int} {R : Mem} {Q : D → Mem → Prop} (h : ∀ r : Int, 0 ≤ r → r < 2 ^ 64 → Q (.int r) []) : sp_law_mix [.int n] [] R Q := ⟨n, rfl, rfl, h⟩
theorem sp_law_next_go {p : Addr} {st : D} {lim : Int} {R : Mem} {Q : D → Mem → Prop} (hs : DrawSt st) (h0 : 0 < lim) (h1 : lim < 2 ^ 200) (h : ∀ (r : Int) (st' : D), 0 ≤ r → r < lim → DrawSt st' → Q (.int r) [(p, st')]) : sp_law_next [.ref p, .int lim] [(p, st)] R Q :=
  ⟨p, st, lim, rfl, rfl, hs, h0, h1, h⟩
local macro_rules | `(tactic| row_cond dspec) => `(tactic| first
  | ((with_reducible refine' sp_law_next_go ?a ?b ?c ?_); (case a => assumption); (case b => first | decide | omega); (case c => first | decide | omega))
  | (with_reducible refine sp_law_mix_go ?_))
theorem cal_law_next {P : Program} {w : World} {K : PySem.W.Frag} {mg : Str → Option Value} {base : Heap} (T : Tx mg) (Da : DefAt K mg "_law_next" s_law_next) (c_law_mix : Cal P w K mg base 1 "_law_mix" sp_law_mix) : Cal P w K mg base (2) "_law_next" sp_law_next := by
  refine calD (k := 1) Da sc_law_next (fun f fd Fu => Fu.binds fun _ _ _ _ _ _ us hl => match us, hl with | [_, _], _ => rfl) (by row_cond dlen) (fun X F hX nm ds M R Q hS => ?_)
  have hst := hX.std
  have n_state : NameAt X 0 "state" := nm.name rfl (.inl rfl) (by decide) (by decide)
  have s_state : StoreAt X 0 "state" := nm.store rfl (.inl rfl)
  have n_limit : NameAt X 1 "limit" := nm.name rfl (.inl rfl) (by decide) (by decide)
  have s_limit : StoreAt X 1 "limit" := nm.store rfl (.inl rfl)
  have n_number : NameAt X 2 "number" := nm.name rfl (.inl rfl) (by decide) (by decide)
  have s_number : StoreAt X 2 "number" := nm.store rfl (.inl rfl)
  have n_drawn : NameAt X 3 "drawn" := nm.name rfl (.inl rfl) (by decide) (by decide)
  have s_drawn : StoreAt X 3 "drawn" := nm.store rfl (.inl rfl)
  have g_law_mix : Gl X "_law_mix" := nm.gl rfl
  have b_len : BltAt X "len" (.builtin "len") := nm.blt hX rfl T.z_len bo_len (by decide) (by decide)
  have b_abs : BltAt X "abs" (.builtin "abs") := nm.blt hX rfl T.z_abs bo_abs (by decide) (by decide)
  have b_int : BltAt X "int" (.type "int") := nm.blt hX rfl T.z_int bo_int (by decide) (by decide)
  obtain ⟨p, st, lim, rfl, rfl, ⟨ns, i, n, c, rfl, hl, hi, hn⟩, h0, h1, hq⟩ := hS
  row_cond dstart
  refine wss_cons ?_
  row_cond go
  · refine rt1 (k := 0) (hq _ _ (Int.emod_nonneg _ (by omega)) (Int.emod_lt_of_pos _ h0) ⟨ns, _, _, _, rfl, hl, by omega, Int.ediv_nonneg (by assumption) (by omega)⟩)
  · refine rt1 (k := 0) (hq _ _ (Int.emod_nonneg _ (by omega)) (Int.emod_lt_of_pos _ h0) ⟨ns, _, _, _, rfl, hl, by omega, Int.ediv_nonneg (by split <;> omega) (by omega)⟩)
  · refine rt1 (k := 0) (hq _ _ (Int.emod_nonneg _ (by omega)) (Int.emod_lt_of_pos _ h0) ⟨ns, _, _, _, rfl, hl, by omega, Int.ediv_nonneg (by assumption) (by omega)⟩)
  · refine rt1 (k := 0) (hq _ _ (Int.emod_nonneg _ (by omega)) (Int.emod_lt_of_pos _ h0) ⟨ns, _, _, _, rfl, hl, by omega, Int.ediv_nonneg (by assumption) (by omega)⟩)

end K18


namespace K18
open PySem PySem.Spec PyProof.Rows L2 DL
local macro_rules | `(tactic| row_cond dcall) => `(tactic| first
  | ((with_reducible refine' we_callX (x := "chunks") ?c ?x ?j ?g ?d ?e ?p ?_); (case c => assumption); (case x => assumption); (case j => first | decide | exact Nat.le_refl _ | omega); (case g => assumption); (case d => decide); (case e => rfl); (case p => rfl))
  | ((with_reducible refine' we_callK (x := "chunks") ?c ?x ?j ?g ?a ?k ?d ?e ?p ?_); (case c => assumption); (case x => assumption); (case j => first | decide | exact Nat.le_refl _ | omega); (case g => assumption); (case a => rfl); (case k => rfl); (case d => decide); (case e => rfl); (case p => rfl))
  | ((with_reducible refine' we_call (x := "refs") ?c ?x ?j ?g ?d ?e ?p ?_); (case c => assumption); (case x => assumption); (case j => first | decide | exact Nat.le_refl _ | omega); (case g => assumption); (case d => decide); (case e => rfl); (case p => rfl))
  | ((with_reducible refine' we_call (x := "find_entry") ?c ?x ?j ?g ?d ?e ?p ?_); (case c => assumption); (case x => assumption); (case j => first | decide | exact Nat.le_refl _ | omega); (case g => assumption); (case d => decide); (case e => rfl); (case p => rfl))
  | ((with_reducible refine' we_call (x := "with_entry") ?c ?x ?j ?g ?d ?e ?p ?_); (case c => assumption); (case x => assumption); (case j => first | decide | exact Nat.le_refl _ | omega); (case g => assumption); (case d => decide); (case e => rfl); (case p => rfl))
  | ((with_reducible refine' we_call (x := "without_entry") ?c ?x ?j ?g ?d ?e ?p ?_); (case c => assumption); (case x => assumption); (case j => first | decide | exact Nat.le_refl _ | omega); (case g => assumption); (case d => decide); (case e => rfl); (case p => rfl))
  | ((with_reducible refine' we_call (x := "_law_mix") ?c ?x ?j ?g ?d ?e ?p ?_); (case c => assumption); (case x => assumption); (case j => first | decide | exact Nat.le_refl _ | omega); (case g => assumption); (case d => decide); (case e => rfl); (case p => rfl))
  | ((with_reducible refine' we_call (x := "_law_start") ?c ?x ?j ?g ?d ?e ?p ?_); (case c => assumption); (case x => assumption); (case j => first | decide | exact Nat.le_refl _ | omega); (case g => assumption); (case d => decide); (case e => rfl); (case p => rfl))
  | ((with_reducible refine' we_call1 (x := "_law_next") ?c ?x ?j ?g ?d ?e ?p ?_); (case c => assumption); (case x => assumption); (case j => first | decide | exact Nat.le_refl _ | omega); (case g => assumption); (case d => decide); (case e => rfl); (case p => rfl))
  | ((with_reducible refine' we_call (x := "_law_is") ?c ?x ?j ?g ?d ?e ?p ?_); (case c => assumption); (case x => assumption); (case j => first | decide | exact Nat.le_refl _ | omega); (case g => assumption); (case d => decide); (case e => rfl); (case p => rfl))
  | ((with_reducible refine' we_call1 (x := "_law_names") ?c ?x ?j ?g ?d ?e ?p ?_); (case c => assumption); (case x => assumption); (case j => first | decide | exact Nat.le_refl _ | omega); (case g => assumption); (case d => decide); (case e => rfl); (case p => rfl))
  | ((with_reducible refine' we_call1 (x := "_law_text") ?c ?x ?j ?g ?d ?e ?p ?_); (case c => assumption); (case x => assumption); (case j => first | decide | exact Nat.le_refl _ | omega); (case g => assumption); (case d => decide); (case e => rfl); (case p => rfl))
  | ((with_reducible refine' we_call (x := "_law_entries") ?c ?x ?j ?g ?d ?e ?p ?_); (case c => assumption); (case x => assumption); (case j => first | decide | exact Nat.le_refl _ | omega); (case g => assumption); (case d => decide); (case e => rfl); (case p => rfl))
  | ((with_reducible refine' we_call (x := "_law_told_refs") ?c ?x ?j ?g ?d ?e ?p ?_); (case c => assumption); (case x => assumption); (case j => first | decide | exact Nat.le_refl _ | omega); (case g => assumption); (case d => decide); (case e => rfl); (case p => rfl))
  | ((with_reducible refine' we_call (x := "_law_folder") ?c ?x ?j ?g ?d ?e ?p ?_); (case c => assumption); (case x => assumption); (case j => first | decide | exact Nat.le_refl _ | omega); (case g => assumption); (case d => decide); (case e => rfl); (case p => rfl))
  | ((with_reducible refine' we_call1 (x := "_law_file") ?c ?x ?j ?g ?d ?e ?p ?_); (case c => assumption); (case x => assumption); (case j => first | decide | exact Nat.le_refl _ | omega); (case g => assumption); (case d => decide); (case e => rfl); (case p => rfl))
  | ((with_reducible refine' we_call (x := "_law_pieces") ?c ?x ?j ?g ?d ?e ?p ?_); (case c => assumption); (case x => assumption); (case j => first | decide | exact Nat.le_refl _ | omega); (case g => assumption); (case d => decide); (case e => rfl); (case p => rfl))
  | ((with_reducible refine' we_call (x := "law") ?c ?x ?j ?g ?d ?e ?p ?_); (case c => assumption); (case x => assumption); (case j => first | decide | exact Nat.le_refl _ | omega); (case g => assumption); (case d => decide); (case e => rfl); (case p => rfl)))
/-! the steps: one line a construct -/
local macro_rules | `(tactic| row_cond dlen) => `(tactic| (intro ds M R Q h; first | (obtain ⟨h1, _⟩ := h; subst h1; rfl) | (obtain ⟨_, h1, _⟩ := h; subst h1; rfl) | (obtain ⟨_, _, h1, _⟩ := h; subst h1; rfl) | (obtain ⟨_, _, _, h1, _⟩ := h; subst h1; rfl) | (obtain ⟨_, _, _, _, h1, _⟩ := h; subst h1; rfl) | (obtain ⟨_, _, _, _, _, h1, _⟩ := h; subst h1; rfl) | (obtain ⟨_, _, _, _, _, _, h1, _⟩ := h; subst h1; rfl) | (obtain ⟨_, _, _, _, _, _, _, h1, _⟩ := h; subst h1; rfl) | (obtain ⟨_, _, _, _, _, _, _, _, h1, _⟩ := h; subst h1; rfl) | (obtain ⟨_, _, _, _, _, _, _, _, _, h1, _⟩ := h; subst h1; rfl) | (obtain ⟨_, _, _, _, _, _, _, _, _, _, h1, _⟩ := h; subst h1; rfl) | (obtain ⟨_, _, _, _, _, _, _, _, _, _, _, h1, _⟩ := h; subst h1; rfl) | (obtain ⟨_, _, _, _, _, _, _, _, _, _, _, _, h1, _⟩ := h; subst h1; rfl)))
local macro_rules | `(tactic| row_cond dsz) => `(tactic| first | exact Nat.le_of_ble_eq_true rfl | assumption | (simp only [List.length_map, List.length_cons, List.length_append, List.length_nil, List.length_reverse, List.length_take, List.length_drop, PySem.sizeLine]; omega))
/- expressions -/
local macro_rules | `(tactic| row_cond dE) => `(tactic| first
  | ((with_reducible refine' we_name ?n ?e ?_); (case n => assumption); (case e => rfl))
  | (with_reducible refine we_int ?_)
  | (with_reducible refine we_bl ?_)
  | (with_reducible refine we_str ?_)
  | (with_reducible refine we_non ?_)
  | (with_reducible refine we_bin ?_)
  | ((with_reducible refine' we_cmp ?n ?_); (case n => rfl))
  | (with_reducible refine we_slice ?_)
  | (with_reducible refine we_rev ?_)
  | ((with_reducible refine' we_ix ?n ?_); (case n => exact fun _ _ => rfl))
  | (with_reducible refine we_tupV ?_)
  | (with_reducible refine we_lstV ?_)
  | ((with_reducible refine' we_blt ?b ?n ?m ?_); (case b => assumption); (case n => rfl); (case m => rfl))
  | ((with_reducible refine' we_typ ?b ?n ?m ?_); (case b => assumption); (case n => rfl); (case m => rfl))
  | ((with_reducible refine' we_tyName ?b ?_); (case b => assumption))
  | (with_reducible refine we_one ?_)
  | (with_reducible refine we_and ?_)
  | (with_reducible refine we_or ?_)
  | (with_reducible refine we_not ?_)
  | (with_reducible refine we_ifexp ?_)
  | ((with_reducible refine' we_un ?n ?_); (case n => exact fun z => nomatch z))
  | row_cond dcall
  | ((with_reducible refine we_bm (T := "list") PySem.F.plainAttrs_list PySem.F.slot_list_append PySem.F.type_list_append ?a ?b ?c ?d ?e ?_); (case a => rfl); (case b => rfl); (case c => rfl); (case d => rfl); (case e => rfl))
  | ((with_reducible refine we_bm0 (T := "list") PySem.F.plainAttrs_list PySem.F.slot_list_pop PySem.F.type_list_pop ?a ?b ?_); (case a => rfl); (case b => rfl))
  | ((with_reducible refine we_bm (T := "list") PySem.F.plainAttrs_list PySem.F.slot_list_extend PySem.F.type_list_extend ?a ?b ?c ?d ?e ?_); (case a => rfl); (case b => rfl); (case c => rfl); (case d => rfl); (case e => rfl)))
/- tests -/
local macro_rules | `(tactic| row_cond dT) => `(tactic| first
  | ((with_reducible refine' wt_cmp ?n ?_); (case n => rfl))
  | (with_reducible refine wt_not ?_)
  | (with_reducible refine wt_bool ?_)
  | (with_reducible refine ww_and1 ?_)
  | (with_reducible refine ww_or1 ?_)
  | (with_reducible refine ww_and ?_)
  | (with_reducible refine ww_or ?_)
  | ((with_reducible refine' wt_val ?n ?_); (case n => exact fun _ => rfl)))
/- statements -/
local macro_rules | `(tactic| row_cond dS) => `(tactic| first
  | (with_reducible refine wss_cons ?_)
  | (with_reducible refine wss_nil ?_)
  | ((with_reducible refine' ws_set ?a ?n ?h ?_); (case a => assumption); (case n => assumption); (case h => rfl))
  | ((with_reducible refine' ws_sub ?h ?_); (case h => rfl))
  | ((with_reducible refine' ws_asg ?a ?n ?h ?_); (case a => rfl); (case n => rfl); (case h => rfl))
  | (with_reducible refine ws_if ?_)
  | row_cond dret
  | ((with_reducible refine' ws_expr ?h ?_); (case h => rfl))
  | (with_reducible refine ws_pass ?_)
  | (with_reducible refine ws_break ?_)
  | (with_reducible refine ws_continue ?_)
  | (with_reducible refine ws_retN ?_))
local macro_rules | `(tactic| row_cond dSn) => `(tactic| first
  | (with_reducible refine wss_cons ?_)
  | (with_reducible refine wss_nil ?_)
  | ((with_reducible refine' ws_set ?a ?n ?h ?_); (case a => assumption); (case n => assumption); (case h => rfl))
  | ((with_reducible refine' ws_sub ?h ?_); (case h => rfl))
  | ((with_reducible refine' ws_asg ?a ?n ?h ?_); (case a => rfl); (case n => rfl); (case h => rfl))
  | row_cond dret
  | ((with_reducible refine' ws_expr ?h ?_); (case h => rfl))
  | (with_reducible refine ws_pass ?_)
  | (with_reducible refine ws_break ?_)
  | (with_reducible refine ws_continue ?_)
  | (with_reducible refine ws_retN ?_))
/- arguments, targets, values -/
local macro_rules | `(tactic| row_cond dV) => `(tactic| first
  | (with_reducible refine wa_nil ?_)
  | ((with_reducible refine' wa_cons ?n ?_); (case n => rfl))
  | (with_reducible refine wav_nil ?_)
  | ((with_reducible refine' wav_cons ?n ?_); (case n => rfl))
  | (with_reducible refine put_go ?_)
  | (with_reducible refine fz_lst ?_)
  | (with_reducible refine fz_tup ?_)
  | (with_reducible refine fz_id ?_)
  | (with_reducible refine own0_go ?_)
  | (with_reducible refine own1_go ?_)
  | (with_reducible refine app_go ?_)
  | (with_reducible refine mset_go ?_)
  | ((with_reducible refine' wg_name ?a ?n ?_); (case a => assumption); (case n => assumption))
  | ((with_reducible refine' wg_tup ?a ?n ?h ?_); (case a => assumption); (case n => rfl); (case h => rfl))
  | (with_reducible refine wgs_nil ?_)
  | ((with_reducible refine' wgs_cons ?n ?_); (case n => rfl))
  | (with_reducible refine wpt_none ?_)
  | (with_reducible refine wpt_some ?_)
  | ((with_reducible refine' wset_list ?n ?_); (case n => first | rfl | row_cond dix)))
/- what is walked -/
local macro_rules | `(tactic| row_cond dI) => `(tactic| first
  | ((with_reducible refine' wi_range1 ?a ?b ?c ?_); (case a => exact BltAt.gl (by assumption)); (case b => exact BltAt.mg (by assumption)); (case c => rfl))
  | ((with_reducible refine' wi_range2 ?a ?b ?c ?d ?_); (case a => exact BltAt.gl (by assumption)); (case b => exact BltAt.mg (by assumption)); (case c => rfl); (case d => rfl))
  | (with_reducible refine wi_val ?_)
  | (with_reducible refine wiv_list ?_)
  | (with_reducible refine wiv_tup ?_)
  | ((with_reducible refine' wgc_name ?a ?n ?h ?_); (case a => assumption); (case n => assumption); (case h => decide))
  | ((with_reducible refine' wgc_tup ?a ?n ?h ?_); (case a => assumption); (case n => rfl); (case h => rfl))
  | (with_reducible refine wgcs_nil ?_)
  | ((with_reducible refine' wgcs_cons ?n ?_); (case n => rfl))
  | (with_reducible refine wts_nil ?_)
  | (with_reducible refine wts_one ?_))
/- operations by values -/
local macro_rules | `(tactic| row_cond dO) => `(tactic| first
  | (with_reducible refine wo_add ?_)
  | (with_reducible refine wo_sub ?_)
  | ((with_reducible refine' wo_mulS ?n ?_); (case n => first | exact .inr ⟨by decide, by decide⟩ | exact .inl ⟨by decide, by decide⟩ | exact .inr ⟨by omega, by omega⟩ | exact .inl ⟨by omega, by omega⟩))
  | ((with_reducible refine' wo_fdiv ?n ?m ?_); (case n => first | decide | omega); (case m => first | decide | row_cond dlog))
  | ((with_reducible refine' wo_mod ?n ?_); (case n => first | decide | omega))
  | (with_reducible refine wo_powL ?_)
  | ((with_reducible refine' wo_pow ?n ?_); (case n => exact ⟨by decide, by decide, by decide⟩))
  | (with_reducible refine wo_xor ?_)
  | (with_reducible refine wo_lt ?_)
  | (with_reducible refine wo_le ?_)
  | (with_reducible refine wo_gt ?_)
  | (with_reducible refine wo_ge ?_)
  | (with_reducible refine wo_eqI ?_)
  | (with_reducible refine wo_neI ?_)
  | (with_reducible refine wo_eqS ?_)
  | (with_reducible refine wo_neS ?_)
  | (with_reducible refine wo_isN ?_)
  | (with_reducible refine wo_isnotN ?_)
  | (with_reducible refine wu_neg ?_)
  | (with_reducible refine wc_int ?_)
  | (with_reducible refine wc_intB ?_)
  | (with_reducible refine wc_abs ?_)
  | ((with_reducible refine' wc_max2 ?a ?_); (case a => assumption))
  | ((with_reducible refine' wc_min2 ?a ?_); (case a => assumption))
  | (with_reducible refine wc_list ?_)
  | (with_reducible refine wc_tuple ?_)
  | ((with_reducible refine' wc_lenS ?a ?_); (case a => row_cond dsz))
  | (with_reducible refine wc_lenM ?_)
  | (with_reducible refine wc_len ?_)
  | (with_reducible refine wc_isK ?_)
  | ((with_reducible refine' wc_allM ?a ?_); (case a => assumption))
  | ((with_reducible refine' wc_anyM ?a ?_); (case a => assumption))
  | ((with_reducible refine' wc_sum ?a ?_); (case a => assumption))
  | ((with_reducible refine' wx_list ?n ?_); (case n => row_cond dat))
  | ((with_reducible refine' wx_map ?a ?b ?_); (case a => omega); (case b => omega))
  | ((with_reducible refine' wx_seq ?a ?b ?_); (case a => omega); (case b => omega))
  | ((with_reducible refine' wx_tup ?n ?_); (case n => row_cond dat))
  | (with_reducible refine wsl_listM ?_)
  | (with_reducible refine wsl_list ?_)
  | (with_reducible refine wrev_goM ?_)
  | (with_reducible refine wrev_go ?_)
  | ((with_reducible refine' wo_catM ?n ?_); (case n => row_cond dsz))
  | ((with_reducible refine' wo_cat ?n ?_); (case n => row_cond dsz))
  | ((with_reducible refine' wm_append ?n ?_); (case n => row_cond dsz)))
local macro_rules | `(tactic| row_cond dat) => `(tactic| rfl)
local macro_rules | `(tactic| row_cond dix) => `(tactic| rfl)
local macro_rules | `(tactic| row_cond dlog) => `(tactic| first | decide | exact log_small (by omega) (by omega))
/- what stands between -/
local macro_rules | `(tactic| row_cond dQ) => `(tactic| first
  | (with_reducible refine ⟨_, rfl, ?_⟩)
  | (with_reducible refine br_true ?_)
  | (with_reducible refine br_false ?_)
  | (with_reducible refine rb_true ?_)
  | (with_reducible refine rb_false ?_)
  | ((with_reducible refine' br_dec ?_ ?_) <;> intro _)
  | ((with_reducible refine' br_ndec ?_ ?_) <;> intro _)
  | ((with_reducible refine' rb_dec ?_ ?_) <;> intro _)
  | ((with_reducible refine' rb_ndec ?_ ?_) <;> intro _)
  | (refine br_is rfl ?_)
  | (refine br_isnot rfl ?_)
  | (refine rb_is rfl ?_)
  | (refine rb_isnot rfl ?_)
  | ((with_reducible refine' ⟨⟨?a, ?b⟩, ?_⟩); (case a => omega); (case b => omega))
  | ((with_reducible refine' ⟨⟨?a, ?b, ?c, ?d⟩, ?_⟩); (case a => omega); (case b => omega); (case c => omega); (case d => omega))
  | (with_reducible refine app_go ?_)
  | (with_reducible refine ⟨tym_list, ?_⟩)
  | (with_reducible refine ⟨tym_str, ?_⟩)
  | ((with_reducible refine ⟨?n, ?_⟩); (case n => (show _ ≤ PySem.sizeLine); row_cond dsz))
  | (with_reducible intro _))
local macro_rules | `(tactic| row_cond dstart) => `(tactic| simp only [startD, List.map_cons, List.map_nil, List.length_cons, List.length_nil, List.cons_append, List.nil_append, Nat.zero_add, Nat.reduceAdd, Nat.reduceSub, List.replicate_succ, List.replicate_zero])
local macro_rules | `(tactic| row_cond d) => `(tactic| first | row_cond dE | row_cond dV | row_cond dO | row_cond dT | row_cond dS | row_cond dI | row_cond dmore | row_cond dspec | row_cond dQ)
local macro_rules | `(tactic| row_cond dn) => `(tactic| first | row_cond dE | row_cond dV | row_cond dO | row_cond dT | row_cond dSn | row_cond dI | row_cond dmore | row_cond dspec | row_cond dQ)
local macro_rules | `(tactic| row_cond gon) => `(tactic| repeat' (row_cond dn))
local macro_rules | `(tactic| row_cond go) => `(tactic| repeat' (row_cond d))
/- the later parts of the layer -/
local macro_rules | `(tactic| row_cond dE) => `(tactic| first
  | ((with_reducible refine' we_sortedSet ?a ?b ?c ?d ?e ?_); (case a => assumption); (case b => assumption); (case c => assumption); (case d => rfl); (case e => rfl))
  | ((with_reducible refine' we_get2 ?a ?b ?_); (case a => assumption); (case b => exact ⟨rfl, rfl, rfl, rfl⟩))
  | ((with_reducible refine' we_get1 ?a ?b ?_); (case a => assumption); (case b => exact ⟨rfl, rfl, rfl, rfl⟩))
  | ((with_reducible refine' we_pop1 ?b ?_); (case b => exact ⟨rfl, rfl, rfl, rfl⟩)))
local macro_rules | `(tactic| row_cond dO) => `(tactic| first
  | ((with_reducible refine' wc_sorted ?a ?b ?c ?_); (case a => assumption); (case b => decide); (case c => first | exact fun _ _ => trivial | assumption))
  | ((with_reducible refine' wsorted_go ?a ?_); (case a => first | assumption | omega))
  | ((with_reducible refine' wo_inD ?a ?b ?_); (case a => assumption); (case b => decide))
  | ((with_reducible refine' wo_ninD ?a ?b ?_); (case a => assumption); (case b => decide))
  | (with_reducible refine getD_K ?_)
  | (with_reducible refine getD_T ?_)
  | ((with_reducible refine' wsl_txt ?a ?_); (case a => row_cond dsz))
  | ((with_reducible refine' wx_strN ?a ?b ?c ?_); (case a => row_cond dsz); (case b => omega); (case c => first | omega | (simp only [PySem.Str.length]; omega)))
  | (with_reducible refine ⟨isDD_K, ?_⟩)
  | (with_reducible refine ⟨isDD_T, ?_⟩))
local macro_rules | `(tactic| row_cond dO) => `(tactic| first
  | ((with_reducible refine' wm_appendM ?n ?_); (case n => row_cond dsz)))
local macro_rules | `(tactic| row_cond dE) => `(tactic| ((with_reducible refine' we_con ?c ?_); (case c => assumption)))
local macro_rules | `(tactic| row_cond dV) => `(tactic| first
  | (with_reducible refine wk_nil ?_)
  | (with_reducible refine wk_cons ?_)
  | (with_reducible refine ⟨rfl, rfl, ?_⟩))
local macro_rules | `(tactic| row_cond dI) => `(tactic| ((with_reducible refine' wi_range3 ?a ?b ?c ?d ?_); (case a => exact BltAt.gl (by assumption)); (case b => exact BltAt.mg (by assumption)); (case c => rfl); (case d => rfl)))
local macro_rules | `(tactic| row_cond dO) => `(tactic| first
  | ((with_reducible refine' wc_lenS ?a ?_); (case a => row_cond dsz)))
local macro_rules | `(tactic| row_cond dO) => `(tactic| first
  | ((with_reducible refine' wo_addS ?a ?_); (case a => row_cond dsz)))
local macro_rules | `(tactic| row_cond dO) => `(tactic| first
  | ((with_reducible refine' wo_addS2 ?a ?_); (case a => first | decide | omega))
  | ((with_reducible refine' wsl_txt2 ?a ?_); (case a => first | decide | omega))
  | ((with_reducible refine' wc_lenS2 ?a ?_); (case a => first | decide | omega)))
local macro_rules | `(tactic| row_cond dE) => `(tactic| first
  | ((with_reducible refine we_bm (T := "str") PySem.F.plainAttrs_str PySem.F.slot_str_index PySem.F.type_str_index ?a ?b ?c ?d ?e ?_); (case a => rfl); (case b => rfl); (case c => rfl); (case d => rfl); (case e => rfl))
  | ((with_reducible refine we_bm (T := "str") PySem.F.plainAttrs_str PySem.F.slot_str_join PySem.F.type_str_join ?a ?b ?c ?d ?e ?_); (case a => rfl); (case b => rfl); (case c => rfl); (case d => rfl); (case e => rfl))
  | ((with_reducible refine we_bm (T := "str") PySem.F.plainAttrs_str PySem.F.slot_str_startswith PySem.F.type_str_startswith ?a ?b ?c ?d ?e ?_); (case a => rfl); (case b => rfl); (case c => rfl); (case d => rfl); (case e => rfl)))
local macro_rules | `(tactic| row_cond dO) => `(tactic| first
  | (with_reducible refine wm_starts ?_))
local macro_rules | `(tactic| row_cond dret) => `(tactic| (with_reducible refine ws_ret ?_))
local macro_rules | `(tactic| row_cond dO) => `(tactic| first
  | ((with_reducible refine' wx_asK ?a ?b ?_); (case a => assumption); (case b => assumption))
  | ((with_reducible refine' wo_inAsK ?a ?_); (case a => assumption))
  | ((with_reducible refine' wo_ninAsK ?a ?_); (case a => assumption))
  | ((with_reducible refine' wset_asK ?a ?b ?_); (case a => assumption); (case b => row_cond dsz))
  | (with_reducible refine getD_asK ?_)
  | ((with_reducible refine' popD_asK ?b ?_); (case b => assumption))
  | ((with_reducible refine' wx_asT ?a ?b ?_); (case a => assumption); (case b => assumption))
  | ((with_reducible refine' wo_inAsT ?a ?_); (case a => assumption))
  | ((with_reducible refine' wo_ninAsT ?a ?_); (case a => assumption))
  | ((with_reducible refine' wset_asT ?a ?b ?_); (case a => assumption); (case b => row_cond dsz))
  | (with_reducible refine getD_asT ?_)
  | ((with_reducible refine' wc_sortedAs ?a ?_); (case a => assumption)))
local macro_rules | `(tactic| row_cond dO) => `(tactic| first
  | (with_reducible refine wc_lenAsK ?_)
  | (with_reducible refine wc_lenAsT ?_))
local macro_rules | `(tactic| row_cond dI) => `(tactic| first
  | (with_reducible refine wiv_asK ?_))

/-! ### _law_is of equal data -/
def sp_law_is (n : Nat) : SpD := fun ds M R Q => ∃ (d1 d2 c : D), ds = [d1, d2] ∧ M = [] ∧ Sh R d1 c ∧ Sh R d2 c ∧ Isd n c ∧ Q (.bl true) []
theorem isd_flat : ∀ (n : Nat) (c : D), Isd n c → (c = .non ∨ (∃ i, c = .int i) ∨ ∃ z, c = .str z) ∨ ∃ m ds, n = m + 1 ∧ (c = .tup ds ∨ c = .lst ds) ∧ ds.length ≤ 16777216 ∧ ∀ d ∈ ds, Isd m d
  | _, .non, _ => .inl (.inl rfl)
  | _, .int _, _ => .inl (.inr (.inl ⟨_, rfl⟩))
  | _, .str _, _ => .inl (.inr (.inr ⟨_, rfl⟩))
  | m + 1, .tup ds, h => .inr ⟨m, ds, rfl, .inl rfl, h⟩
  | m + 1, .lst ds, h => .inr ⟨m, ds, rfl, .inr rfl, h⟩
  | 0, .tup _, h => h.elim
  | 0, .lst _, h => h.elim
  | 0, .bl _, h => h.elim
  | _ + 1, .bl _, h => h.elim
  | 0, .ref _, h => h.elim
  | _ + 1, .ref _, h => h.elim
  | 0, .ty _, h => h.elim
  | _ + 1, .ty _, h => h.elim
  | 0, .dK _, h => h.elim
  | _ + 1, .dK _, h => h.elim
  | 0, .dT _, h => h.elim
  | _ + 1, .dT _, h => h.elim
  | 0, .st _, h => h.elim
  | _ + 1, .st _, h => h.elim
  | 0, .ins _ _, h => h.elim
  | _ + 1, .ins _ _, h => h.elim
theorem cal_law_is0 {P : Program} {w : World} {K : PySem.W.Frag} {mg : Str → Option Value} {base : Heap} (T : Tx mg) (Da : DefAt K mg "_law_is" s_law_is)  : Cal P w K mg base (1) "_law_is" (sp_law_is 0) := by
  refine calD (k := 0) Da sc_law_is (fun f fd Fu => Fu.binds fun _ _ _ _ _ _ us hl => match us, hl with | [_, _], _ => rfl) (by row_cond dlen) (fun X F hX nm ds M R Q hS => ?_)
  have hst := hX.std
  have n_told : NameAt X 0 "told" := nm.name rfl (.inr rfl) (by decide) (by decide)
  have s_told : StoreAt X 0 "told" := nm.store rfl (.inr rfl)
  have n_due : NameAt X 1 "due" := nm.name rfl (.inr rfl) (by decide) (by decide)
  have s_due : StoreAt X 1 "due" := nm.store rfl (.inr rfl)
  have b_isinstance : BltAt X "isinstance" (.builtin "isinstance") := nm.blt hX rfl T.z_isinstance bo_isinstance (by decide) (by decide)
  have b_int : BltAt X "int" (.type "int") := nm.blt hX rfl T.z_int bo_int (by decide) (by decide)
  have b_bool : BltAt X "bool" (.type "bool") := nm.blt hX rfl T.z_bool bo_bool (by decide) (by decide)
  have b_str : BltAt X "str" (.type "str") := nm.blt hX rfl T.z_str bo_str (by decide) (by decide)
  have b_dict : BltAt X "dict" (.type "dict") := nm.blt hX rfl T.z_dict bo_dict (by decide) (by decide)
  have b_len : BltAt X "len" (.builtin "len") := nm.blt hX rfl T.z_len bo_len (by decide) (by decide)
  have b_all : BltAt X "all" (.builtin "all") := nm.blt hX rfl T.z_all bo_all (by decide) (by decide)
  have b_tuple : BltAt X "tuple" (.type "tuple") := nm.blt hX rfl T.z_tuple bo_tuple (by decide) (by decide)
  have b_list : BltAt X "list" (.type "list") := nm.blt hX rfl T.z_list bo_list (by decide) (by decide)
  have b_range : BltAt X "range" (.type "range") := nm.blt hX rfl T.z_range bo_range (by decide) (by decide)
  have m_range : X.mg "range" = none := by rw [hX.mg]; exact T.z_range
  obtain ⟨d1, d2, c, rfl, rfl, h1, h2, hd, hq⟩ := hS
  row_cond dstart
  rcases isd_flat _ c hd with (rfl | ⟨i, rfl⟩ | ⟨z, rfl⟩) | ⟨m, _, e, _⟩
  · (cases h1; cases h2); refine wss_cons ?_; row_cond go; exact rt0 hq
  · (cases h1; cases h2); refine wss_cons ?_; row_cond go; refine rt0 ?_; simpa using hq
  · (cases h1; cases h2); refine wss_cons ?_; row_cond go; refine rt0 ?_; simpa using hq
  · cases e
theorem sh_wk {q : Addr × D} {R : Mem} {d c : D} (h : Sh R d c) : Sh (q :: R) d c := by
  cases h with
  | self => exact .self _
  | lst h => exact .lst ⟨see_wk h.see⟩
local macro_rules | `(tactic| row_cond dspec) => `(tactic| fail)
theorem cal_law_isS {P : Program} {w : World} {K : PySem.W.Frag} {mg : Str → Option Value} {base : Heap} {n : Nat} (T : Tx mg) (Da : DefAt K mg "_law_is" s_law_is) (c_law_is : Cal P w K mg base (n+1) "_law_is" (sp_law_is n)) : Cal P w K mg base (n+2) "_law_is" (sp_law_is (n+1)) := by
  refine calD (k := (n+1)) Da sc_law_is (fun f fd Fu => Fu.binds fun _ _ _ _ _ _ us hl => match us, hl with | [_, _], _ => rfl) (by row_cond dlen) (fun X F hX nm ds M R Q hS => ?_)
  have hst := hX.std
  have n_told : NameAt X 0 "told" := nm.name rfl (.inr rfl) (by decide) (by decide)
  have s_told : StoreAt X 0 "told" := nm.store rfl (.inr rfl)
  have n_due : NameAt X 1 "due" := nm.name rfl (.inr rfl) (by decide) (by decide)
  have s_due : StoreAt X 1 "due" := nm.store rfl (.inr rfl)
  have b_isinstance : BltAt X "isinstance" (.builtin "isinstance") := nm.blt hX rfl T.z_isinstance bo_isinstance (by decide) (by decide)
  have b_int : BltAt X "int" (.type "int") := nm.blt hX rfl T.z_int bo_int (by decide) (by decide)
  have b_bool : BltAt X "bool" (.type "bool") := nm.blt hX rfl T.z_bool bo_bool (by decide) (by decide)
  have b_str : BltAt X "str" (.type "str") := nm.blt hX rfl T.z_str bo_str (by decide) (by decide)
  have b_dict : BltAt X "dict" (.type "dict") := nm.blt hX rfl T.z_dict bo_dict (by decide) (by decide)
  have b_len : BltAt X "len" (.builtin "len") := nm.blt hX rfl T.z_len bo_len (by decide) (by decide)
  have b_all : BltAt X "all" (.builtin "all") := nm.blt hX rfl T.z_all bo_all (by decide) (by decide)
  have b_tuple : BltAt X "tuple" (.type "tuple") := nm.blt hX rfl T.z_tuple bo_tuple (by decide) (by decide)
  have b_list : BltAt X "list" (.type "list") := nm.blt hX rfl T.z_list bo_list (by decide) (by decide)
  have b_range : BltAt X "range" (.type "range") := nm.blt hX rfl T.z_range bo_range (by decide) (by decide)
  have m_range : X.mg "range" = none := by rw [hX.mg]; exact T.z_range
  obtain ⟨d1, d2, c, rfl, rfl, h1, h2, hd, hq⟩ := hS
  row_cond dstart
  rcases isd_flat _ c hd with (rfl | ⟨i, rfl⟩ | ⟨z, rfl⟩) | ⟨m, ds, e, hc, hlen, hds⟩
  · (cases h1; cases h2); refine wss_cons ?_; row_cond go; exact rt0 hq
  · (cases h1; cases h2); refine wss_cons ?_; row_cond go; refine rt0 ?_; simpa using hq
  · (cases h1; cases h2); refine wss_cons ?_; row_cond go; refine rt0 ?_; simpa using hq
  · cases e
    rcases hc with rfl | rfl
    · (cases h1; cases h2)
      refine wss_cons ?_
      row_cond go
      · refine we_lc' hst (own := [("k", 3)]) (nm.blk (by decide +kernel)) (fun _ => rfl) rfl ?_
        row_cond go
        refine lc_name hX (by rw [nm.N]; rfl) (.inl rfl) (fun i acc M' => acc = (List.replicate i true).map D.bl ∧ M' = []) ⟨rfl, rfl⟩ (fun _ _ _ _ _ => trivial) (fun a i x acc M' hx hW => ?_) (fun a acc M' hW => ?_)
        · obtain ⟨rfl, rfl⟩ := hW
          obtain ⟨hi, rfl⟩ := rngD_at hx
          have hi' : i < ds.length := by omega
          refine put_go (fun X' hb => ?_)
          have hX_X' := hb.inn hX
          have hst_X' := hX_X'.std
          have n_k_X' : NameAt X' 3 "k" := hb.name (by rw [nm.N]; rfl) (by first | exact .inl rfl | exact .inr (.inl rfl) | exact .inr (.inr rfl)) (by decide) (by decide)
          have s_k_X' : StoreAt X' 3 "k" := hb.store (by rw [nm.N]; rfl) (by first | exact .inl rfl | exact .inr rfl)
          have g_law_is_X' : Gl X' "_law_is" := hb.gl rfl
          have n_told_X' : NameAt X' 0 "told" := hb.name (by rw [nm.N]; rfl) (by first | exact .inl rfl | exact .inr (.inl rfl) | exact .inr (.inr rfl)) (by decide) (by decide)
          have n_due_X' : NameAt X' 1 "due" := hb.name (by rw [nm.N]; rfl) (by first | exact .inl rfl | exact .inr (.inl rfl) | exact .inr (.inr rfl)) (by decide) (by decide)
          row_cond go
          rename_i y1 h1 y2 h2
          rw [h1] at h2; cases h2
          refine ⟨y1, y1, y1, rfl, rfl, .self _, .self _, hds _ (List.mem_of_getElem? h1), ?_⟩
          row_cond go
          refine lcend_id (by rw [List.length_map, List.length_replicate]; show i < 16777216; omega) ⟨by rw [List.replicate_succ', List.map_append]; rfl, rfl⟩
        · obtain ⟨rfl, rfl⟩ := hW
          row_cond go
          refine rt0 ?_
          rw [all_rep]; exact hq
      · rename_i z; exact absurd rfl z
    · have s1 : SeeL [] R d1 ds := by
        cases h1 with
        | self => exact SeeL.self
        | lst h => exact h
      have s2 : SeeL [] R d2 ds := by
        cases h2 with
        | self => exact SeeL.self
        | lst h => exact h
      have nn : isNon d2 = false := by
        cases h2 with
        | self => rfl
        | lst h =>
          cases h.see with
          | self => rfl
          | own h => cases h
          | rd h => rfl
      refine wss_cons ?_
      row_cond go
      refine br_isnot nn ?_
      row_cond go
      · refine we_lc' hst (own := [("k", 3)]) (nm.blk (by decide +kernel)) (fun _ => rfl) rfl ?_
        row_cond go
        refine lc_name hX (by rw [nm.N]; rfl) (.inl rfl) (fun i acc M' => acc = (List.replicate i true).map D.bl ∧ M' = []) ⟨rfl, rfl⟩ (fun _ _ _ _ _ => trivial) (fun a i x acc M' hx hW => ?_) (fun a acc M' hW => ?_)
        · obtain ⟨rfl, rfl⟩ := hW
          obtain ⟨hi, rfl⟩ := rngD_at hx
          have hi' : i < ds.length := by omega
          refine put_go (fun X' hb => ?_)
          have hX_X' := hb.inn hX
          have hst_X' := hX_X'.std
          have n_k_X' : NameAt X' 3 "k" := hb.name (by rw [nm.N]; rfl) (by first | exact .inl rfl | exact .inr (.inl rfl) | exact .inr (.inr rfl)) (by decide) (by decide)
          have s_k_X' : StoreAt X' 3 "k" := hb.store (by rw [nm.N]; rfl) (by first | exact .inl rfl | exact .inr rfl)
          have g_law_is_X' : Gl X' "_law_is" := hb.gl rfl
          have n_told_X' : NameAt X' 0 "told" := hb.name (by rw [nm.N]; rfl) (by first | exact .inl rfl | exact .inr (.inl rfl) | exact .inr (.inr rfl)) (by decide) (by decide)
          have n_due_X' : NameAt X' 1 "due" := hb.name (by rw [nm.N]; rfl) (by first | exact .inl rfl | exact .inr (.inl rfl) | exact .inr (.inr rfl)) (by decide) (by decide)
          row_cond go
          rename_i y1 h1 y2 h2
          rw [h1] at h2; cases h2
          refine ⟨y1, y1, y1, rfl, rfl, .self _, .self _, hds _ (List.mem_of_getElem? h1), ?_⟩
          row_cond go
          refine lcend_id (by rw [List.length_map, List.length_replicate]; show i < 16777216; omega) ⟨by rw [List.replicate_succ', List.map_append]; rfl, rfl⟩
        · obtain ⟨rfl, rfl⟩ := hW
          row_cond go
          refine rt0 ?_
          rw [all_rep]; exact hq
      · rename_i z; exact absurd rfl z

end K18


namespace K18
open PySem PySem.Spec PyProof.Rows L2 DL
local macro_rules | `(tactic| row_cond dcall) => `(tactic| first
  | ((with_reducible refine' we_callX (x := "chunks") ?c ?x ?j ?g ?d ?e ?p ?_); (case c => assumption); (case x => assumption); (case j => first | decide | exact Nat.le_refl _ | omega); (case g => assumption); (case d => decide); (case e => rfl); (case p => rfl))
  | ((with_reducible refine' we_callK (x := "chunks") ?c ?x ?j ?g ?a ?k ?d ?e ?p ?_); (case c => assumption); (case x => assumption); (case j => first | decide | exact Nat.le_refl _ | omega); (case g => assumption); (case a => rfl); (case k => rfl); (case d => decide); (case e => rfl); (case p => rfl))
  | ((with_reducible refine' we_call (x := "refs") ?c ?x ?j ?g ?d ?e ?p ?_); (case c => assumption); (case x => assumption); (case j => first | decide | exact Nat.le_refl _ | omega); (case g => assumption); (case d => decide); (case e => rfl); (case p => rfl))
  | ((with_reducible refine' we_call (x := "find_entry") ?c ?x ?j ?g ?d ?e ?p ?_); (case c => assumption); (case x => assumption); (case j => first | decide | exact Nat.le_refl _ | omega); (case g => assumption); (case d => decide); (case e => rfl); (case p => rfl))
  | ((with_reducible refine' we_call (x := "with_entry") ?c ?x ?j ?g ?d ?e ?p ?_); (case c => assumption); (case x => assumption); (case j => first | decide | exact Nat.le_refl _ | omega); (case g => assumption); (case d => decide); (case e => rfl); (case p => rfl))
  | ((with_reducible refine' we_call (x := "without_entry") ?c ?x ?j ?g ?d ?e ?p ?_); (case c => assumption); (case x => assumption); (case j => first | decide | exact Nat.le_refl _ | omega); (case g => assumption); (case d => decide); (case e => rfl); (case p => rfl))
  | ((with_reducible refine' we_call (x := "_law_mix") ?c ?x ?j ?g ?d ?e ?p ?_); (case c => assumption); (case x => assumption); (case j => first | decide | exact Nat.le_refl _ | omega); (case g => assumption); (case d => decide); (case e => rfl); (case p => rfl))
  | ((with_reducible refine' we_call (x := "_law_start") ?c ?x ?j ?g ?d ?e ?p ?_); (case c => assumption); (case x => assumption); (case j => first | decide | exact Nat.le_refl _ | omega); (case g => assumption); (case d => decide); (case e => rfl); (case p => rfl))
  | ((with_reducible refine' we_call1 (x := "_law_next") ?c ?x ?j ?g ?d ?e ?p ?_); (case c => assumption); (case x => assumption); (case j => first | decide | exact Nat.le_refl _ | omega); (case g => assumption); (case d => decide); (case e => rfl); (case p => rfl))
  | ((with_reducible refine' we_call (x := "_law_is") ?c ?x ?j ?g ?d ?e ?p ?_); (case c => assumption); (case x => assumption); (case j => first | decide | exact Nat.le_refl _ | omega); (case g => assumption); (case d => decide); (case e => rfl); (case p => rfl))
  | ((with_reducible refine' we_call1 (x := "_law_names") ?c ?x ?j ?g ?d ?e ?p ?_); (case c => assumption); (case x => assumption); (case j => first | decide | exact Nat.le_refl _ | omega); (case g => assumption); (case d => decide); (case e => rfl); (case p => rfl))
  | ((with_reducible refine' we_call1 (x := "_law_text") ?c ?x ?j ?g ?d ?e ?p ?_); (case c => assumption); (case x => assumption); (case j => first | decide | exact Nat.le_refl _ | omega); (case g => assumption); (case d => decide); (case e => rfl); (case p => rfl))
  | ((with_reducible refine' we_call (x := "_law_entries") ?c ?x ?j ?g ?d ?e ?p ?_); (case c => assumption); (case x => assumption); (case j => first | decide | exact Nat.le_refl _ | omega); (case g => assumption); (case d => decide); (case e => rfl); (case p => rfl))
  | ((with_reducible refine' we_call (x := "_law_told_refs") ?c ?x ?j ?g ?d ?e ?p ?_); (case c => assumption); (case x => assumption); (case j => first | decide | exact Nat.le_refl _ | omega); (case g => assumption); (case d => decide); (case e => rfl); (case p => rfl))
  | ((with_reducible refine' we_call (x := "_law_folder") ?c ?x ?j ?g ?d ?e ?p ?_); (case c => assumption); (case x => assumption); (case j => first | decide | exact Nat.le_refl _ | omega); (case g => assumption); (case d => decide); (case e => rfl); (case p => rfl))
  | ((with_reducible refine' we_call1 (x := "_law_file") ?c ?x ?j ?g ?d ?e ?p ?_); (case c => assumption); (case x => assumption); (case j => first | decide | exact Nat.le_refl _ | omega); (case g => assumption); (case d => decide); (case e => rfl); (case p => rfl))
  | ((with_reducible refine' we_call (x := "_law_pieces") ?c ?x ?j ?g ?d ?e ?p ?_); (case c => assumption); (case x => assumption); (case j => first | decide | exact Nat.le_refl _ | omega); (case g => assumption); (case d => decide); (case e => rfl); (case p => rfl))
  | ((with_reducible refine' we_call (x := "law") ?c ?x ?j ?g ?d ?e ?p ?_); (case c => assumption); (case x => assumption); (case j => first | decide | exact Nat.le_refl _ | omega); (case g => assumption); (case d => decide); (case e => rfl); (case p => rfl)))
/-! the steps: one line a construct -/
local macro_rules | `(tactic| row_cond dlen) => `(tactic| (intro ds M R Q h; first | (obtain ⟨h1, _⟩ := h; subst h1; rfl) | (obtain ⟨_, h1, _⟩ := h; subst h1; rfl) | (obtain ⟨_, _, h1, _⟩ := h; subst h1; rfl) | (obtain ⟨_, _, _, h1, _⟩ := h; subst h1; rfl) | (obtain ⟨_, _, _, _, h1, _⟩ := h; subst h1; rfl) | (obtain ⟨_, _, _, _, _, h1, _⟩ := h; subst h1; rfl) | (obtain ⟨_, _, _, _, _, _, h1, _⟩ := h; subst h1; rfl) | (obtain ⟨_, _, _, _, _, _, _, h1, _⟩ := h; subst h1; rfl) | (obtain ⟨_, _, _, _, _, _, _, _, h1, _⟩ := h; subst h1; rfl) | (obtain ⟨_, _, _, _, _, _, _, _, _, h1, _⟩ := h; subst h1; rfl) | (obtain ⟨_, _, _, _, _, _, _, _, _, _, h1, _⟩ := h; subst h1; rfl) | (obtain ⟨_, _, _, _, _, _, _, _, _, _, _, h1, _⟩ := h; subst h1; rfl) | (obtain ⟨_, _, _, _, _, _, _, _, _, _, _, _, h1, _⟩ := h; subst h1; rfl)))
local macro_rules | `(tactic| row_cond dsz) => `(tactic| first | exact Nat.le_of_ble_eq_true rfl | assumption | (simp only [List.length_map, List.length_cons, List.length_append, List.length_nil, List.length_reverse, List.length_take, List.length_drop, PySem.sizeLine]; omega))
/- expressions -/
local macro_rules | `(tactic| row_cond dE) => `(tactic| first
  | ((with_reducible refine' we_name ?n ?e ?_); (case n => assumption); (case e => rfl))
  | (with_reducible refine we_int ?_)
  | (with_reducible refine we_bl ?_)
  | (with_reducible refine we_str ?_)
  | (with_reducible refine we_non ?_)
  | (with_reducible refine we_bin ?_)
  | ((with_reducible refine' we_cmp ?n ?_); (case n => rfl))
  | (with_reducible refine we_slice ?_)
  | (with_reducible refine we_rev ?_)
  | ((with_reducible refine' we_ix ?n ?_); (case n => exact fun _ _ => rfl))
  | (with_reducible refine we_tupV ?_)
  | (with_reducible refine we_lstV ?_)
  | ((with_reducible refine' we_blt ?b ?n ?m ?_); (case b => assumption); (case n => rfl); (case m => rfl))
  | ((with_reducible refine' we_typ ?b ?n ?m ?_); (case b => assumption); (case n => rfl); (case m => rfl))
  | ((with_reducible refine' we_tyName ?b ?_); (case b => assumption))
  | (with_reducible refine we_one ?_)
  | (with_reducible refine we_and ?_)
  | (with_reducible refine we_or ?_)
  | (with_reducible refine we_not ?_)
  | (with_reducible refine we_ifexp ?_)
  | ((with_reducible refine' we_un ?n ?_); (case n => exact fun z => nomatch z))
  | row_cond dcall
  | ((with_reducible refine we_bm (T := "list") PySem.F.plainAttrs_list PySem.F.slot_list_append PySem.F.type_list_append ?a ?b ?c ?d ?e ?_); (case a => rfl); (case b => rfl); (case c => rfl); (case d => rfl); (case e => rfl))
  | ((with_reducible refine we_bm0 (T := "list") PySem.F.plainAttrs_list PySem.F.slot_list_pop PySem.F.type_list_pop ?a ?b ?_); (case a => rfl); (case b => rfl))
  | ((with_reducible refine we_bm (T := "list") PySem.F.plainAttrs_list PySem.F.slot_list_extend PySem.F.type_list_extend ?a ?b ?c ?d ?e ?_); (case a => rfl); (case b => rfl); (case c => rfl); (case d => rfl); (case e => rfl)))
/- tests -/
local macro_rules | `(tactic| row_cond dT) => `(tactic| first
  | ((with_reducible refine' wt_cmp ?n ?_); (case n => rfl))
  | (with_reducible refine wt_not ?_)
  | (with_reducible refine wt_bool ?_)
  | (with_reducible refine ww_and1 ?_)
  | (with_reducible refine ww_or1 ?_)
  | (with_reducible refine ww_and ?_)
  | (with_reducible refine ww_or ?_)
  | ((with_reducible refine' wt_val ?n ?_); (case n => exact fun _ => rfl)))
/- statements -/
local macro_rules | `(tactic| row_cond dS) => `(tactic| first
  | (with_reducible refine wss_cons ?_)
  | (with_reducible refine wss_nil ?_)
  | ((with_reducible refine' ws_set ?a ?n ?h ?_); (case a => assumption); (case n => assumption); (case h => rfl))
  | ((with_reducible refine' ws_sub ?h ?_); (case h => rfl))
  | ((with_reducible refine' ws_asg ?a ?n ?h ?_); (case a => rfl); (case n => rfl); (case h => rfl))
  | (with_reducible refine ws_if ?_)
  | row_cond dret
  | ((with_reducible refine' ws_expr ?h ?_); (case h => rfl))
  | (with_reducible refine ws_pass ?_)
  | (with_reducible refine ws_break ?_)
  | (with_reducible refine ws_continue ?_)
  | (with_reducible refine ws_retN ?_))
local macro_rules | `(tactic| row_cond dSn) => `(tactic| first
  | (with_reducible refine wss_cons ?_)
  | (with_reducible refine wss_nil ?_)
  | ((with_reducible refine' ws_set ?a ?n ?h ?_); (case a => assumption); (case n => assumption); (case h => rfl))
  | ((with_reducible refine' ws_sub ?h ?_); (case h => rfl))
  | ((with_reducible refine' ws_asg ?a ?n ?h ?_); (case a => rfl); (case n => rfl); (case h => rfl))
  | row_cond dret
  | ((with_reducible refine' ws_expr ?h ?_); (case h => rfl))
  | (with_reducible refine ws_pass ?_)
  | (with_reducible refine ws_break ?_)
  | (with_reducible refine ws_continue ?_)
  | (with_reducible refine ws_retN ?_))
/- arguments, targets, values -/
local macro_rules | `(tactic| row_cond dV) => `(tactic| first
  | (with_reducible refine wa_nil ?_)
  | ((with_reducible refine' wa_cons ?n ?_); (case n => rfl))
  | (with_reducible refine wav_nil ?_)
  | ((with_reducible refine' wav_cons ?n ?_); (case n => rfl))
  | (with_reducible refine put_go ?_)
  | (with_reducible refine fz_lst ?_)
  | (with_reducible refine fz_tup ?_)
  | (with_reducible refine fz_id ?_)
  | (with_reducible refine own0_go ?_)
  | (with_reducible refine own1_go ?_)
  | (with_reducible refine app_go ?_)
  | (with_reducible refine mset_go ?_)
  | ((with_reducible refine' wg_name ?a ?n ?_); (case a => assumption); (case n => assumption))
  | ((with_reducible refine' wg_tup ?a ?n ?h ?_); (case a => assumption); (case n => rfl); (case h => rfl))
  | (with_reducible refine wgs_nil ?_)
  | ((with_reducible refine' wgs_cons ?n ?_); (case n => rfl))
  | (with_reducible refine wpt_none ?_)
  | (with_reducible refine wpt_some ?_)
  | ((with_reducible refine' wset_list ?n ?_); (case n => first | rfl | row_cond dix)))
/- what is walked -/
local macro_rules | `(tactic| row_cond dI) => `(tactic| first
  | ((with_reducible refine' wi_range1 ?a ?b ?c ?_); (case a => exact BltAt.gl (by assumption)); (case b => exact BltAt.mg (by assumption)); (case c => rfl))
  | ((with_reducible refine' wi_range2 ?a ?b ?c ?d ?_); (case a => exact BltAt.gl (by assumption)); (case b => exact BltAt.mg (by assumption)); (case c => rfl); (case d => rfl))
  | (with_reducible refine wi_val ?_)
  | (with_reducible refine wiv_list ?_)
  | (with_reducible refine wiv_tup ?_)
  | ((with_reducible refine' wgc_name ?a ?n ?h ?_); (case a => assumption); (case n => assumption); (case h => decide))
  | ((with_reducible refine' wgc_tup ?a ?n ?h ?_); (case a => assumption); (case n => rfl); (case h => rfl))
  | (with_reducible refine wgcs_nil ?_)
  | ((with_reducible refine' wgcs_cons ?n ?_); (case n => rfl))
  | (with_reducible refine wts_nil ?_)
  | (with_reducible refine wts_one ?_))
/- operations by values -/
local macro_rules | `(tactic| row_cond dO) => `(tactic| first
  | (with_reducible refine wo_add ?_)
  | (with_reducible refine wo_sub ?_)
  | ((with_reducible refine' wo_mulS ?n ?_); (case n => first | exact .inr ⟨by decide, by decide⟩ | exact .inl ⟨by decide, by decide⟩ | exact .inr ⟨by omega, by omega⟩ | exact .inl ⟨by omega, by omega⟩))
  | ((with_reducible refine' wo_fdiv ?n ?m ?_); (case n => first | decide | omega); (case m => first | decide | row_cond dlog))
  | ((with_reducible refine' wo_mod ?n ?_); (case n => first | decide | omega))
  | (with_reducible refine wo_powL ?_)
  | ((with_reducible refine' wo_pow ?n ?_); (case n => exact ⟨by decide, by decide, by decide⟩))
  | (with_reducible refine wo_xor ?_)
  | (with_reducible refine wo_lt ?_)
  | (with_reducible refine wo_le ?_)
  | (with_reducible refine wo_gt ?_)
  | (with_reducible refine wo_ge ?_)
  | (with_reducible refine wo_eqI ?_)
  | (with_reducible refine wo_neI ?_)
  | (with_reducible refine wo_eqS ?_)
  | (with_reducible refine wo_neS ?_)
  | (with_reducible refine wo_isN ?_)
  | (with_reducible refine wo_isnotN ?_)
  | (with_reducible refine wu_neg ?_)
  | (with_reducible refine wc_int ?_)
  | (with_reducible refine wc_intB ?_)
  | (with_reducible refine wc_abs ?_)
  | ((with_reducible refine' wc_max2 ?a ?_); (case a => assumption))
  | ((with_reducible refine' wc_min2 ?a ?_); (case a => assumption))
  | (with_reducible refine wc_list ?_)
  | (with_reducible refine wc_tuple ?_)
  | ((with_reducible refine' wc_lenS ?a ?_); (case a => row_cond dsz))
  | (with_reducible refine wc_lenM ?_)
  | (with_reducible refine wc_len ?_)
  | (with_reducible refine wc_isK ?_)
  | ((with_reducible refine' wc_allM ?a ?_); (case a => assumption))
  | ((with_reducible refine' wc_anyM ?a ?_); (case a => assumption))
  | ((with_reducible refine' wc_sum ?a ?_); (case a => assumption))
  | ((with_reducible refine' wx_list ?n ?_); (case n => row_cond dat))
  | ((with_reducible refine' wx_map ?a ?b ?_); (case a => omega); (case b => omega))
  | ((with_reducible refine' wx_seq ?a ?b ?_); (case a => omega); (case b => omega))
  | ((with_reducible refine' wx_tup ?n ?_); (case n => row_cond dat))
  | (with_reducible refine wsl_listM ?_)
  | (with_reducible refine wsl_list ?_)
  | (with_reducible refine wrev_goM ?_)
  | (with_reducible refine wrev_go ?_)
  | ((with_reducible refine' wo_catM ?n ?_); (case n => row_cond dsz))
  | ((with_reducible refine' wo_cat ?n ?_); (case n => row_cond dsz))
  | ((with_reducible refine' wm_append ?n ?_); (case n => row_cond dsz)))
local macro_rules | `(tactic| row_cond dat) => `(tactic| rfl)
local macro_rules | `(tactic| row_cond dix) => `(tactic| rfl)
local macro_rules | `(tactic| row_cond dlog) => `(tactic| first | decide | exact log_small (by omega) (by omega))
/- what stands between -/
local macro_rules | `(tactic| row_cond dQ) => `(tactic| first
  | (with_reducible refine ⟨_, rfl, ?_⟩)
  | (with_reducible refine br_true ?_)
  | (with_reducible refine br_false ?_)
  | (with_reducible refine rb_true ?_)
  | (with_reducible refine rb_false ?_)
  | ((with_reducible refine' br_dec ?_ ?_) <;> intro _)
  | ((with_reducible refine' br_ndec ?_ ?_) <;> intro _)
  | ((with_reducible refine' rb_dec ?_ ?_) <;> intro _)
  | ((with_reducible refine' rb_ndec ?_ ?_) <;> intro _)
  | (refine br_is rfl ?_)
  | (refine br_isnot rfl ?_)
  | (refine rb_is rfl ?_)
  | (refine rb_isnot rfl ?_)
  | ((with_reducible refine' ⟨⟨?a, ?b⟩, ?_⟩); (case a => omega); (case b => omega))
  | ((with_reducible refine' ⟨⟨?a, ?b, ?c, ?d⟩, ?_⟩); (case a => omega); (case b => omega); (case c => omega); (case d => omega))
  | (with_reducible refine app_go ?_)
  | (with_reducible refine ⟨tym_list, ?_⟩)
  | (with_reducible refine ⟨tym_str, ?_⟩)
  | ((with_reducible refine ⟨?n, ?_⟩); (case n => (show _ ≤ PySem.sizeLine); row_cond dsz))
  | (with_reducible intro _))
local macro_rules | `(tactic| row_cond dstart) => `(tactic| simp only [startD, List.map_cons, List.map_nil, List.length_cons, List.length_nil, List.cons_append, List.nil_append, Nat.zero_add, Nat.reduceAdd, Nat.reduceSub, List.replicate_succ, List.replicate_zero])
local macro_rules | `(tactic| row_cond d) => `(tactic| first | row_cond dE | row_cond dV | row_cond dO | row_cond dT | row_cond dS | row_cond dI | row_cond dmore | row_cond dspec | row_cond dQ)
local macro_rules | `(tactic| row_cond dn) => `(tactic| first | row_cond dE | row_cond dV | row_cond dO | row_cond dT | row_cond dSn | row_cond dI | row_cond dmore | row_cond dspec | row_cond dQ)
local macro_rules | `(tactic| row_cond gon) => `(tactic| repeat' (row_cond dn))
local macro_rules | `(tactic| row_cond go) => `(tactic| repeat' (row_cond d))
/- the later parts of the layer -/
local macro_rules | `(tactic| row_cond dE) => `(tactic| first
  | ((with_reducible refine' we_sortedSet ?a ?b ?c ?d ?e ?_); (case a => assumption); (case b => assumption); (case c => assumption); (case d => rfl); (case e => rfl))
  | ((with_reducible refine' we_get2 ?a ?b ?_); (case a => assumption); (case b => exact ⟨rfl, rfl, rfl, rfl⟩))
  | ((with_reducible refine' we_get1 ?a ?b ?_); (case a => assumption); (case b => exact ⟨rfl, rfl, rfl, rfl⟩))
  | ((with_reducible refine' we_pop1 ?b ?_); (case b => exact ⟨rfl, rfl, rfl, rfl⟩)))
local macro_rules | `(tactic| row_cond dO) => `(tactic| first
  | ((with_reducible refine' wc_sorted ?a ?b ?c ?_); (case a => assumption); (case b => decide); (case c => first | exact fun _ _ => trivial | assumption))
  | ((with_reducible refine' wsorted_go ?a ?_); (case a => first | assumption | omega))
  | ((with_reducible refine' wo_inD ?a ?b ?_); (case a => assumption); (case b => decide))
  | ((with_reducible refine' wo_ninD ?a ?b ?_); (case a => assumption); (case b => decide))
  | (with_reducible refine getD_K ?_)
  | (with_reducible refine getD_T ?_)
  | ((with_reducible refine' wsl_txt ?a ?_); (case a => row_cond dsz))
  | ((with_reducible refine' wx_strN ?a ?b ?c ?_); (case a => row_cond dsz); (case b => omega); (case c => first | omega | (simp only [PySem.Str.length]; omega)))
  | (with_reducible refine ⟨isDD_K, ?_⟩)
  | (with_reducible refine ⟨isDD_T, ?_⟩))
local macro_rules | `(tactic| row_cond dO) => `(tactic| first
  | ((with_reducible refine' wm_appendM ?n ?_); (case n => row_cond dsz)))
local macro_rules | `(tactic| row_cond dE) => `(tactic| ((with_reducible refine' we_con ?c ?_); (case c => assumption)))
local macro_rules | `(tactic| row_cond dV) => `(tactic| first
  | (with_reducible refine wk_nil ?_)
  | (with_reducible refine wk_cons ?_)
  | (with_reducible refine ⟨rfl, rfl, ?_⟩))
local macro_rules | `(tactic| row_cond dI) => `(tactic| ((with_reducible refine' wi_range3 ?a ?b ?c ?d ?_); (case a => exact BltAt.gl (by assumption)); (case b => exact BltAt.mg (by assumption)); (case c => rfl); (case d => rfl)))
local macro_rules | `(tactic| row_cond dO) => `(tactic| first
  | ((with_reducible refine' wc_lenS ?a ?_); (case a => row_cond dsz)))
local macro_rules | `(tactic| row_cond dO) => `(tactic| first
  | ((with_reducible refine' wo_addS ?a ?_); (case a => row_cond dsz)))
local macro_rules | `(tactic| row_cond dO) => `(tactic| first
  | ((with_reducible refine' wo_addS2 ?a ?_); (case a => first | decide | omega))
  | ((with_reducible refine' wsl_txt2 ?a ?_); (case a => first | decide | omega))
  | ((with_reducible refine' wc_lenS2 ?a ?_); (case a => first | decide | omega)))
local macro_rules | `(tactic| row_cond dE) => `(tactic| first
  | ((with_reducible refine we_bm (T := "str") PySem.F.plainAttrs_str PySem.F.slot_str_index PySem.F.type_str_index ?a ?b ?c ?d ?e ?_); (case a => rfl); (case b => rfl); (case c => rfl); (case d => rfl); (case e => rfl))
  | ((with_reducible refine we_bm (T := "str") PySem.F.plainAttrs_str PySem.F.slot_str_join PySem.F.type_str_join ?a ?b ?c ?d ?e ?_); (case a => rfl); (case b => rfl); (case c => rfl); (case d => rfl); (case e => rfl))
  | ((with_reducible refine we_bm (T := "str") PySem.F.plainAttrs_str PySem.F.slot_str_startswith PySem.F.type_str_startswith ?a ?b ?c ?d ?e ?_); (case a => rfl); (case b => rfl); (case c => rfl); (case d => rfl); (case e => rfl)))
local macro_rules | `(tactic| row_cond dO) => `(tactic| first
  | (with_reducible refine wm_starts ?_))
local macro_rules | `(tactic| row_cond dret) => `(tactic| (with_reducible refine ws_ret ?_))
local macro_rules | `(tactic| row_cond dO) => `(tactic| first
  | ((with_reducible refine' wx_asK ?a ?b ?_); (case a => assumption); (case b => assumption))
  | ((with_reducible refine' wo_inAsK ?a ?_); (case a => assumption))
  | ((with_reducible refine' wo_ninAsK ?a ?_); (case a => assumption))
  | ((with_reducible refine' wset_asK ?a ?b ?_); (case a => assumption); (case b => row_cond dsz))
  | (with_reducible refine getD_asK ?_)
  | ((with_reducible refine' popD_asK ?b ?_); (case b => assumption))
  | ((with_reducible refine' wx_asT ?a ?b ?_); (case a => assumption); (case b => assumption))
  | ((with_reducible refine' wo_inAsT ?a ?_); (case a => assumption))
  | ((with_reducible refine' wo_ninAsT ?a ?_); (case a => assumption))
  | ((with_reducible refine' wset_asT ?a ?b ?_); (case a => assumption); (case b => row_cond dsz))
  | (with_reducible refine getD_asT ?_)
  | ((with_reducible refine' wc_sortedAs ?a ?_); (case a => assumption)))
local macro_rules | `(tactic| row_cond dO) => `(tactic| first
  | (with_reducible refine wc_lenAsK ?_)
  | (with_reducible refine wc_lenAsT ?_))
local macro_rules | `(tactic| row_cond dI) => `(tactic| first
  | (with_reducible refine wiv_asK ?_))

/-! ### the entries of a folder -/
abbrev Ent := Str × Int
def encE (e : Ent) : D := .tup [.str e.1, .int e.2]
instance : DOrd encE (ltP2 ltS ltI) 1 := DOrd.pair DOrd.str DOrd.int
instance : DSrt encE (fun _ => True) := ⟨.inl fun a _ => ⟨_, _, rfl⟩⟩
def sp_find_entry : SpD := fun ds M _ Q => ∃ (k s : D) (es : List Ent) (w : Str), ds = [.tup [k, s, .tup (es.map encE)], .str w] ∧ M = [] ∧ Q ((es.find? fun e => decide (e.1 = w)).elim .non fun e => .int e.2) []
theorem cal_find_entry {P : Program} {w : World} {K : PySem.W.Frag} {mg : Str → Option Value} {base : Heap} (T : Tx mg) (Da : DefAt K mg "find_entry" s_find_entry)  : Cal P w K mg base (1) "find_entry" sp_find_entry := by
  refine calD (k := 0) Da sc_find_entry (fun f fd Fu => Fu.binds fun _ _ _ _ _ _ us hl => match us, hl with | [_, _], _ => rfl) (by row_cond dlen) (fun X F hX nm ds M R Q hS => ?_)
  have hst := hX.std
  have n_record : NameAt X 0 "record" := nm.name rfl (.inl rfl) (by decide) (by decide)
  have s_record : StoreAt X 0 "record" := nm.store rfl (.inl rfl)
  have n_word : NameAt X 1 "word" := nm.name rfl (.inl rfl) (by decide) (by decide)
  have s_word : StoreAt X 1 "word" := nm.store rfl (.inl rfl)
  have n_name : NameAt X 2 "name" := nm.name rfl (.inl rfl) (by decide) (by decide)
  have s_name : StoreAt X 2 "name" := nm.store rfl (.inl rfl)
  have n_slot : NameAt X 3 "slot" := nm.name rfl (.inl rfl) (by decide) (by decide)
  have s_slot : StoreAt X 3 "slot" := nm.store rfl (.inl rfl)
  obtain ⟨kd, sr, es, w, rfl, rfl, hq⟩ := hS
  row_cond dstart
  refine wss_cons ?_
  refine ws_for hst (fun _ => rfl) ?_
  row_cond go
  refine ⟨fun i Γ => ∃ a b, Γ = ⟨[some (.tup [kd, sr, .tup (es.map encE)]), some (.str w), a, b], [], R⟩ ∧ ∀ e ∈ es.take i, e.1 ≠ w, ⟨_, _, rfl, fun e he => by simp at he⟩, ?_, fun i x Γ hx hW => ?_, fun Γ hW => ?_⟩
  · rintro i Γ ⟨a, b, rfl, _⟩
    exact (inferInstance : SeeT _ _ _ _).see
  · obtain ⟨a, b, rfl, hno⟩ := hW
    rw [List.getElem?_map] at hx
    obtain ⟨e, he, rfl⟩ := Option.map_eq_some_iff.mp hx
    unfold encE
    row_cond go
    · rename_i hw
      refine rt0 ?_
      have : (es.find? fun e => decide (e.1 = w)) = some e := by
        rw [List.find?_eq_some_iff_getElem]
        obtain ⟨hi, he2⟩ := List.getElem?_eq_some_iff.mp he
        refine ⟨by simpa using hw, i, hi, he2, fun j hj => ?_⟩
        simpa using hno es[j] (List.mem_take_iff_getElem.mpr ⟨j, by omega, rfl⟩)
      rw [this] at hq
      exact hq
    · rename_i hw
      refine ⟨_, _, rfl, fun e2 h2 => ?_⟩
      rw [List.take_add_one, he] at h2
      rcases List.mem_append.mp h2 with h2 | h2
      · exact hno e2 h2
      · have : e2 = e := by simpa using h2
        rw [this]; exact hw
  · obtain ⟨a, b, rfl, hno⟩ := hW
    row_cond go
    refine rt0 ?_
    have : (es.find? fun e => decide (e.1 = w)) = none := by
      rw [List.find?_eq_none]
      intro e he
      rw [List.length_map, List.take_length] at hno
      simpa using hno e he
    rw [this] at hq
    exact hq

end K18


namespace K18
open PySem PySem.Spec PyProof.Rows L2 DL
local macro_rules | `(tactic| row_cond dcall) => `(tactic| first
  | ((with_reducible refine' we_callX (x := "chunks") ?c ?x ?j ?g ?d ?e ?p ?_); (case c => assumption); (case x => assumption); (case j => first | decide | exact Nat.le_refl _ | omega); (case g => assumption); (case d => decide); (case e => rfl); (case p => rfl))
  | ((with_reducible refine' we_callK (x := "chunks") ?c ?x ?j ?g ?a ?k ?d ?e ?p ?_); (case c => assumption); (case x => assumption); (case j => first | decide | exact Nat.le_refl _ | omega); (case g => assumption); (case a => rfl); (case k => rfl); (case d => decide); (case e => rfl); (case p => rfl))
  | ((with_reducible refine' we_call (x := "refs") ?c ?x ?j ?g ?d ?e ?p ?_); (case c => assumption); (case x => assumption); (case j => first | decide | exact Nat.le_refl _ | omega); (case g => assumption); (case d => decide); (case e => rfl); (case p => rfl))
  | ((with_reducible refine' we_call (x := "find_entry") ?c ?x ?j ?g ?d ?e ?p ?_); (case c => assumption); (case x => assumption); (case j => first | decide | exact Nat.le_refl _ | omega); (case g => assumption); (case d => decide); (case e => rfl); (case p => rfl))
  | ((with_reducible refine' we_call (x := "with_entry") ?c ?x ?j ?g ?d ?e ?p ?_); (case c => assumption); (case x => assumption); (case j => first | decide | exact Nat.le_refl _ | omega); (case g => assumption); (case d => decide); (case e => rfl); (case p => rfl))
  | ((with_reducible refine' we_call (x := "without_entry") ?c ?x ?j ?g ?d ?e ?p ?_); (case c => assumption); (case x => assumption); (case j => first | decide | exact Nat.le_refl _ | omega); (case g => assumption); (case d => decide); (case e => rfl); (case p => rfl))
  | ((with_reducible refine' we_call (x := "_law_mix") ?c ?x ?j ?g ?d ?e ?p ?_); (case c => assumption); (case x => assumption); (case j => first | decide | exact Nat.le_refl _ | omega); (case g => assumption); (case d => decide); (case e => rfl); (case p => rfl))
  | ((with_reducible refine' we_call (x := "_law_start") ?c ?x ?j ?g ?d ?e ?p ?_); (case c => assumption); (case x => assumption); (case j => first | decide | exact Nat.le_refl _ | omega); (case g => assumption); (case d => decide); (case e => rfl); (case p => rfl))
  | ((with_reducible refine' we_call1 (x := "_law_next") ?c ?x ?j ?g ?d ?e ?p ?_); (case c => assumption); (case x => assumption); (case j => first | decide | exact Nat.le_refl _ | omega); (case g => assumption); (case d => decide); (case e => rfl); (case p => rfl))
  | ((with_reducible refine' we_call (x := "_law_is") ?c ?x ?j ?g ?d ?e ?p ?_); (case c => assumption); (case x => assumption); (case j => first | decide | exact Nat.le_refl _ | omega); (case g => assumption); (case d => decide); (case e => rfl); (case p => rfl))
  | ((with_reducible refine' we_call1 (x := "_law_names") ?c ?x ?j ?g ?d ?e ?p ?_); (case c => assumption); (case x => assumption); (case j => first | decide | exact Nat.le_refl _ | omega); (case g => assumption); (case d => decide); (case e => rfl); (case p => rfl))
  | ((with_reducible refine' we_call1 (x := "_law_text") ?c ?x ?j ?g ?d ?e ?p ?_); (case c => assumption); (case x => assumption); (case j => first | decide | exact Nat.le_refl _ | omega); (case g => assumption); (case d => decide); (case e => rfl); (case p => rfl))
  | ((with_reducible refine' we_call (x := "_law_entries") ?c ?x ?j ?g ?d ?e ?p ?_); (case c => assumption); (case x => assumption); (case j => first | decide | exact Nat.le_refl _ | omega); (case g => assumption); (case d => decide); (case e => rfl); (case p => rfl))
  | ((with_reducible refine' we_call (x := "_law_told_refs") ?c ?x ?j ?g ?d ?e ?p ?_); (case c => assumption); (case x => assumption); (case j => first | decide | exact Nat.le_refl _ | omega); (case g => assumption); (case d => decide); (case e => rfl); (case p => rfl))
  | ((with_reducible refine' we_call (x := "_law_folder") ?c ?x ?j ?g ?d ?e ?p ?_); (case c => assumption); (case x => assumption); (case j => first | decide | exact Nat.le_refl _ | omega); (case g => assumption); (case d => decide); (case e => rfl); (case p => rfl))
  | ((with_reducible refine' we_call1 (x := "_law_file") ?c ?x ?j ?g ?d ?e ?p ?_); (case c => assumption); (case x => assumption); (case j => first | decide | exact Nat.le_refl _ | omega); (case g => assumption); (case d => decide); (case e => rfl); (case p => rfl))
  | ((with_reducible refine' we_call (x := "_law_pieces") ?c ?x ?j ?g ?d ?e ?p ?_); (case c => assumption); (case x => assumption); (case j => first | decide | exact Nat.le_refl _ | omega); (case g => assumption); (case d => decide); (case e => rfl); (case p => rfl))
  | ((with_reducible refine' we_call (x := "law") ?c ?x ?j ?g ?d ?e ?p ?_); (case c => assumption); (case x => assumption); (case j => first | decide | exact Nat.le_refl _ | omega); (case g => assumption); (case d => decide); (case e => rfl); (case p => rfl)))
/-! the steps: one line a construct -/
local macro_rules | `(tactic| row_cond dlen) => `(tactic| (intro ds M R Q h; first | (obtain ⟨h1, _⟩ := h; subst h1; rfl) | (obtain ⟨_, h1, _⟩ := h; subst h1; rfl) | (obtain ⟨_, _, h1, _⟩ := h; subst h1; rfl) | (obtain ⟨_, _, _, h1, _⟩ := h; subst h1; rfl) | (obtain ⟨_, _, _, _, h1, _⟩ := h; subst h1; rfl) | (obtain ⟨_, _, _, _, _, h1, _⟩ := h; subst h1; rfl) | (obtain ⟨_, _, _, _, _, _, h1, _⟩ := h; subst h1; rfl) | (obtain ⟨_, _, _, _, _, _, _, h1, _⟩ := h; subst h1; rfl) | (obtain ⟨_, _, _, _, _, _, _, _, h1, _⟩ := h; subst h1; rfl) | (obtain ⟨_, _, _, _, _, _, _, _, _, h1, _⟩ := h; subst h1; rfl) | (obtain ⟨_, _, _, _, _, _, _, _, _, _, h1, _⟩ := h; subst h1; rfl) | (obtain ⟨_, _, _, _, _, _, _, _, _, _, _, h1, _⟩ := h; subst h1; rfl) | (obtain ⟨_, _, _, _, _, _, _, _, _, _, _, _, h1, _⟩ := h; subst h1; rfl)))
local macro_rules | `(tactic| row_cond dsz) => `(tactic| first | exact Nat.le_of_ble_eq_true rfl | assumption | (simp only [List.length_map, List.length_cons, List.length_append, List.length_nil, List.length_reverse, List.length_take, List.length_drop, PySem.sizeLine]; omega))
/- expressions -/
local macro_rules | `(tactic| row_cond dE) => `(tactic| first
  | ((with_reducible refine' we_name ?n ?e ?_); (case n => assumption); (case e => rfl))
  | (with_reducible refine we_int ?_)
  | (with_reducible refine we_bl ?_)
  | (with_reducible refine we_str ?_)
  | (with_reducible refine we_non ?_)
  | (with_reducible refine we_bin ?_)
  | ((with_reducible refine' we_cmp ?n ?_); (case n => rfl))
  | (with_reducible refine we_slice ?_)
  | (with_reducible refine we_rev ?_)
  | ((with_reducible refine' we_ix ?n ?_); (case n => exact fun _ _ => rfl))
  | (with_reducible refine we_tupV ?_)
  | (with_reducible refine we_lstV ?_)
  | ((with_reducible refine' we_blt ?b ?n ?m ?_); (case b => assumption); (case n => rfl); (case m => rfl))
  | ((with_reducible refine' we_typ ?b ?n ?m ?_); (case b => assumption); (case n => rfl); (case m => rfl))
  | ((with_reducible refine' we_tyName ?b ?_); (case b => assumption))
  | (with_reducible refine we_one ?_)
  | (with_reducible refine we_and ?_)
  | (with_reducible refine we_or ?_)
  | (with_reducible refine we_not ?_)
  | (with_reducible refine we_ifexp ?_)
  | ((with_reducible refine' we_un ?n ?_); (case n => exact fun z => nomatch z))
  | row_cond dcall
  | ((with_reducible refine we_bm (T := "list") PySem.F.plainAttrs_list PySem.F.slot_list_append PySem.F.type_list_append ?a ?b ?c ?d ?e ?_); (case a => rfl); (case b => rfl); (case c => rfl); (case d => rfl); (case e => rfl))
  | ((with_reducible refine we_bm0 (T := "list") PySem.F.plainAttrs_list PySem.F.slot_list_pop PySem.F.type_list_pop ?a ?b ?_); (case a => rfl); (case b => rfl))
  | ((with_reducible refine we_bm (T := "list") PySem.F.plainAttrs_list PySem.F.slot_list_extend PySem.F.type_list_extend ?a ?b ?c ?d ?e ?_); (case a => rfl); (case b => rfl); (case c => rfl); (case d => rfl); (case e => rfl)))
/- tests -/
local macro_rules | `(tactic| row_cond dT) => `(tactic| first
  | ((with_reducible refine' wt_cmp ?n ?_); (case n => rfl))
  | (with_reducible refine wt_not ?_)
  | (with_reducible refine wt_bool ?_)
  | (with_reducible refine ww_and1 ?_)
  | (with_reducible refine ww_or1 ?_)
  | (with_reducible refine ww_and ?_)
  | (with_reducible refine ww_or ?_)
  | ((with_reducible refine' wt_val ?n ?_); (case n => exact fun _ => rfl)))
/- statements -/
local macro_rules | `(tactic| row_cond dS) => `(tactic| first
  | (with_reducible refine wss_cons ?_)
  | (with_reducible refine wss_nil ?_)
  | ((with_reducible refine' ws_set ?a ?n ?h ?_); (case a => assumption); (case n => assumption); (case h => rfl))
  | ((with_reducible refine' ws_sub ?h ?_); (case h => rfl))
  | ((with_reducible refine' ws_asg ?a ?n ?h ?_); (case a => rfl); (case n => rfl); (case h => rfl))
  | (with_reducible refine ws_if ?_)
  | row_cond dret
  | ((with_reducible refine' ws_expr ?h ?_); (case h => rfl))
  | (with_reducible refine ws_pass ?_)
  | (with_reducible refine ws_break ?_)
  | (with_reducible refine ws_continue ?_)
  | (with_reducible refine ws_retN ?_))
local macro_rules | `(tactic| row_cond dSn) => `(tactic| first
  | (with_reducible refine wss_cons ?_)
  | (with_reducible refine wss_nil ?_)
  | ((with_reducible refine' ws_set ?a ?n ?h ?_); (case a => assumption); (case n => assumption); (case h => rfl))
  | ((with_reducible refine' ws_sub ?h ?_); (case h => rfl))
  | ((with_reducible refine' ws_asg ?a ?n ?h ?_); (case a => rfl); (case n => rfl); (case h => rfl))
  | row_cond dret
  | ((with_reducible refine' ws_expr ?h ?_); (case h => rfl))
  | (with_reducible refine ws_pass ?_)
  | (with_reducible refine ws_break ?_)
  | (with_reducible refine ws_continue ?_)
  | (with_reducible refine ws_retN ?_))
/- arguments, targets, values -/
local macro_rules | `(tactic| row_cond dV) => `(tactic| first
  | (with_reducible refine wa_nil ?_)
  | ((with_reducible refine' wa_cons ?n ?_); (case n => rfl))
  | (with_reducible refine wav_nil ?_)
  | ((with_reducible refine' wav_cons ?n ?_); (case n => rfl))
  | (with_reducible refine put_go ?_)
  | (with_reducible refine fz_lst ?_)
  | (with_reducible refine fz_tup ?_)
  | (with_reducible refine fz_id ?_)
  | (with_reducible refine own0_go ?_)
  | (with_reducible refine own1_go ?_)
  | (with_reducible refine app_go ?_)
  | (with_reducible refine mset_go ?_)
  | ((with_reducible refine' wg_name ?a ?n ?_); (case a => assumption); (case n => assumption))
  | ((with_reducible refine' wg_tup ?a ?n ?h ?_); (case a => assumption); (case n => rfl); (case h => rfl))
  | (with_reducible refine wgs_nil ?_)
  | ((with_reducible refine' wgs_cons ?n ?_); (case n => rfl))
  | (with_reducible refine wpt_none ?_)
  | (with_reducible refine wpt_some ?_)
  | ((with_reducible refine' wset_list ?n ?_); (case n => first | rfl | row_cond dix)))
/- what is walked -/
local macro_rules | `(tactic| row_cond dI) => `(tactic| first
  | ((with_reducible refine' wi_range1 ?a ?b ?c ?_); (case a => exact BltAt.gl (by assumption)); (case b => exact BltAt.mg (by assumption)); (case c => rfl))
  | ((with_reducible refine' wi_range2 ?a ?b ?c ?d ?_); (case a => exact BltAt.gl (by assumption)); (case b => exact BltAt.mg (by assumption)); (case c => rfl); (case d => rfl))
  | (with_reducible refine wi_val ?_)
  | (with_reducible refine wiv_list ?_)
  | (with_reducible refine wiv_tup ?_)
  | ((with_reducible refine' wgc_name ?a ?n ?h ?_); (case a => assumption); (case n => assumption); (case h => decide))
  | ((with_reducible refine' wgc_tup ?a ?n ?h ?_); (case a => assumption); (case n => rfl); (case h => rfl))
  | (with_reducible refine wgcs_nil ?_)
  | ((with_reducible refine' wgcs_cons ?n ?_); (case n => rfl))
  | (with_reducible refine wts_nil ?_)
  | (with_reducible refine wts_one ?_))
/- operations by values -/
local macro_rules | `(tactic| row_cond dO) => `(tactic| first
  | (with_reducible refine wo_add ?_)
  | (with_reducible refine wo_sub ?_)
  | ((with_reducible refine' wo_mulS ?n ?_); (case n => first | exact .inr ⟨by decide, by decide⟩ | exact .inl ⟨by decide, by decide⟩ | exact .inr ⟨by omega, by omega⟩ | exact .inl ⟨by omega, by omega⟩))
  | ((with_reducible refine' wo_fdiv ?n ?m ?_); (case n => first | decide | omega); (case m => first | decide | row_cond dlog))
  | ((with_reducible refine' wo_mod ?n ?_); (case n => first | decide | omega))
  | (with_reducible refine wo_powL ?_)
  | ((with_reducible refine' wo_pow ?n ?_); (case n => exact ⟨by decide, by decide, by decide⟩))
  | (with_reducible refine wo_xor ?_)
  | (with_reducible refine wo_lt ?_)
  | (with_reducible refine wo_le ?_)
  | (with_reducible refine wo_gt ?_)
  | (with_reducible refine wo_ge ?_)
  | (with_reducible refine wo_eqI ?_)
  | (with_reducible refine wo_neI ?_)
  | (with_reducible refine wo_eqS ?_)
  | (with_reducible refine wo_neS ?_)
  | (with_reducible refine wo_isN ?_)
  | (with_reducible refine wo_isnotN ?_)
  | (with_reducible refine wu_neg ?_)
  | (with_reducible refine wc_int ?_)
  | (with_reducible refine wc_intB ?_)
  | (with_reducible refine wc_abs ?_)
  | ((with_reducible refine' wc_max2 ?a ?_); (case a => assumption))
  | ((with_reducible refine' wc_min2 ?a ?_); (case a => assumption))
  | (with_reducible refine wc_list ?_)
  | (with_reducible refine wc_tuple ?_)
  | ((with_reducible refine' wc_lenS ?a ?_); (case a => row_cond dsz))
  | (with_reducible refine wc_lenM ?_)
  | (with_reducible refine wc_len ?_)
  | (with_reducible refine wc_isK ?_)
  | ((with_reducible refine' wc_allM ?a ?_); (case a => assumption))
  | ((with_reducible refine' wc_anyM ?a ?_); (case a => assumption))
  | ((with_reducible refine' wc_sum ?a ?_); (case a => assumption))
  | ((with_reducible refine' wx_list ?n ?_); (case n => row_cond dat))
  | ((with_reducible refine' wx_map ?a ?b ?_); (case a => omega); (case b => omega))
  | ((with_reducible refine' wx_seq ?a ?b ?_); (case a => omega); (case b => omega))
  | ((with_reducible refine' wx_tup ?n ?_); (case n => row_cond dat))
  | (with_reducible refine wsl_listM ?_)
  | (with_reducible refine wsl_list ?_)
  | (with_reducible refine wrev_goM ?_)
  | (with_reducible refine wrev_go ?_)
  | ((with_reducible refine' wo_catM ?n ?_); (case n => row_cond dsz))
  | ((with_reducible refine' wo_cat ?n ?_); (case n => row_cond dsz))
  | ((with_reducible refine' wm_append ?n ?_); (case n => row_cond dsz)))
local macro_rules | `(tactic| row_cond dat) => `(tactic| rfl)
local macro_rules | `(tactic| row_cond dix) => `(tactic| rfl)
local macro_rules | `(tactic| row_cond dlog) => `(tactic| first | decide | exact log_small (by omega) (by omega))
/- what stands between -/
local macro_rules | `(tactic| row_cond dQ) => `(tactic| first
  | (with_reducible refine ⟨_, rfl, ?_⟩)
  | (with_reducible refine br_true ?_)
  | (with_reducible refine br_false ?_)
  | (with_reducible refine rb_true ?_)
  | (with_reducible refine rb_false ?_)
  | ((with_reducible refine' br_dec ?_ ?_) <;> intro _)
  | ((with_reducible refine' br_ndec ?_ ?_) <;> intro _)
  | ((with_reducible refine' rb_dec ?_ ?_) <;> intro _)
  | ((with_reducible refine' rb_ndec ?_ ?_) <;> intro _)
  | (refine br_is rfl ?_)
  | (refine br_isnot rfl ?_)
  | (refine rb_is rfl ?_)
  | (refine rb_isnot rfl ?_)
  | ((with_reducible refine' ⟨⟨?a, ?b⟩, ?_⟩); (case a => omega); (case b => omega))
  | ((with_reducible refine' ⟨⟨?a, ?b, ?c, ?d⟩, ?_⟩); (case a => omega); (case b => omega); (case c => omega); (case d => omega))
  | (with_reducible refine app_go ?_)
  | (with_reducible refine ⟨tym_list, ?_⟩)
  | (with_reducible refine ⟨tym_str, ?_⟩)
  | ((with_reducible refine ⟨?n, ?_⟩); (case n => (show _ ≤ PySem.sizeLine); row_cond dsz))
  | (with_reducible intro _))
local macro_rules | `(tactic| row_cond dstart) => `(tactic| simp only [startD, List.map_cons, List.map_nil, List.length_cons, List.length_nil, List.cons_append, List.nil_append, Nat.zero_add, Nat.reduceAdd, Nat.reduceSub, List.replicate_succ, List.replicate_zero])
local macro_rules | `(tactic| row_cond d) => `(tactic| first | row_cond dE | row_cond dV | row_cond dO | row_cond dT | row_cond dS | row_cond dI | row_cond dmore | row_cond dspec | row_cond dQ)
local macro_rules | `(tactic| row_cond dn) => `(tactic| first | row_cond dE | row_cond dV | row_cond dO | row_cond dT | row_cond dSn | row_cond dI | row_cond dmore | row_cond dspec | row_cond dQ)
local macro_rules | `(tactic| row_cond gon) => `(tactic| repeat' (row_cond dn))
local macro_rules | `(tactic| row_cond go) => `(tactic| repeat' (row_cond d))
/- the later parts of the layer -/
local macro_rules | `(tactic| row_cond dE) => `(tactic| first
  | ((with_reducible refine' we_sortedSet ?a ?b ?c ?d ?e ?_); (case a => assumption); (case b => assumption); (case c => assumption); (case d => rfl); (case e => rfl))
  | ((with_reducible refine' we_get2 ?a ?b ?_); (case a => assumption); (case b => exact ⟨rfl, rfl, rfl, rfl⟩))
  | ((with_reducible refine' we_get1 ?a ?b ?_); (case a => assumption); (case b => exact ⟨rfl, rfl, rfl, rfl⟩))
  | ((with_reducible refine' we_pop1 ?b ?_); (case b => exact ⟨rfl, rfl, rfl, rfl⟩)))
local macro_rules | `(tactic| row_cond dO) => `(tactic| first
  | ((with_reducible refine' wc_sorted ?a ?b ?c ?_); (case a => assumption); (case b => decide); (case c => first | exact fun _ _ => trivial | assumption))
  | ((with_reducible refine' wsorted_go ?a ?_); (case a => first | assumption | omega))
  | ((with_reducible refine' wo_inD ?a ?b ?_); (case a => assumption); (case b => decide))
  | ((with_reducible refine' wo_ninD ?a ?b ?_); (case a => assumption); (case b => decide))
  | (with_reducible refine getD_K ?_)
  | (with_reducible refine getD_T ?_)
  | ((with_reducible refine' wsl_txt ?a ?_); (case a => row_cond dsz))
  | ((with_reducible refine' wx_strN ?a ?b ?c ?_); (case a => row_cond dsz); (case b => omega); (case c => first | omega | (simp only [PySem.Str.length]; omega)))
  | (with_reducible refine ⟨isDD_K, ?_⟩)
  | (with_reducible refine ⟨isDD_T, ?_⟩))
local macro_rules | `(tactic| row_cond dO) => `(tactic| first
  | ((with_reducible refine' wm_appendM ?n ?_); (case n => row_cond dsz)))
local macro_rules | `(tactic| row_cond dE) => `(tactic| ((with_reducible refine' we_con ?c ?_); (case c => assumption)))
local macro_rules | `(tactic| row_cond dV) => `(tactic| first
  | (with_reducible refine wk_nil ?_)
  | (with_reducible refine wk_cons ?_)
  | (with_reducible refine ⟨rfl, rfl, ?_⟩))
local macro_rules | `(tactic| row_cond dI) => `(tactic| ((with_reducible refine' wi_range3 ?a ?b ?c ?d ?_); (case a => exact BltAt.gl (by assumption)); (case b => exact BltAt.mg (by assumption)); (case c => rfl); (case d => rfl)))
local macro_rules | `(tactic| row_cond dO) => `(tactic| first
  | ((with_reducible refine' wc_lenS ?a ?_); (case a => row_cond dsz)))
local macro_rules | `(tactic| row_cond dO) => `(tactic| first
  | ((with_reducible refine' wo_addS ?a ?_); (case a => row_cond dsz)))
local macro_rules | `(tactic| row_cond dO) => `(tactic| first
  | ((with_reducible refine' wo_addS2 ?a ?_); (case a => first | decide | omega))
  | ((with_reducible refine' wsl_txt2 ?a ?_); (case a => first | decide | omega))
  | ((with_reducible refine' wc_lenS2 ?a ?_); (case a => first | decide | omega)))
local macro_rules | `(tactic| row_cond dE) => `(tactic| first
  | ((with_reducible refine we_bm (T := "str") PySem.F.plainAttrs_str PySem.F.slot_str_index PySem.F.type_str_index ?a ?b ?c ?d ?e ?_); (case a => rfl); (case b => rfl); (case c => rfl); (case d => rfl); (case e => rfl))
  | ((with_reducible refine we_bm (T := "str") PySem.F.plainAttrs_str PySem.F.slot_str_join PySem.F.type_str_join ?a ?b ?c ?d ?e ?_); (case a => rfl); (case b => rfl); (case c => rfl); (case d => rfl); (case e => rfl))
  | ((with_reducible refine we_bm (T := "str") PySem.F.plainAttrs_str PySem.F.slot_str_startswith PySem.F.type_str_startswith ?a ?b ?c ?d ?e ?_); (case a => rfl); (case b => rfl); (case c => rfl); (case d => rfl); (case e => rfl)))
local macro_rules | `(tactic| row_cond dO) => `(tactic| first
  | (with_reducible refine wm_starts ?_))
local macro_rules | `(tactic| row_cond dret) => `(tactic| (with_reducible refine ws_ret ?_))
local macro_rules | `(tactic| row_cond dO) => `(tactic| first
  | ((with_reducible refine' wx_asK ?a ?b ?_); (case a => assumption); (case b => assumption))
  | ((with_reducible refine' wo_inAsK ?a ?_); (case a => assumption))
  | ((with_reducible refine' wo_ninAsK ?a ?_); (case a => assumption))
  | ((with_reducible refine' wset_asK ?a ?b ?_); (case a => assumption); (case b => row_cond dsz))
  | (with_reducible refine getD_asK ?_)
  | ((with_reducible refine' popD_asK ?b ?_); (case b => assumption))
  | ((with_reducible refine' wx_asT ?a ?b ?_); (case a => assumption); (case b => assumption))
  | ((with_reducible refine' wo_inAsT ?a ?_); (case a => assumption))
  | ((with_reducible refine' wo_ninAsT ?a ?_); (case a => assumption))
  | ((with_reducible refine' wset_asT ?a ?b ?_); (case a => assumption); (case b => row_cond dsz))
  | (with_reducible refine getD_asT ?_)
  | ((with_reducible refine' wc_sortedAs ?a ?_); (case a => assumption)))
local macro_rules | `(tactic| row_cond dO) => `(tactic| first
  | (with_reducible refine wc_lenAsK ?_)
  | (with_reducible refine wc_lenAsT ?_))
local macro_rules | `(tactic| row_cond dI) => `(tactic| first
  | (with_reducible refine wiv_asK ?_))

instance {M R : Mem} {e : Ent} : SeeT M R (encE e) [.str e.1, .int e.2] := ⟨.self _⟩
def sp_without_entry : SpD := fun ds M _ Q => ∃ (es : List Ent) (w : Str), ds = [.tup (es.map encE), .str w] ∧ M = [] ∧ es.length ≤ 16777216 ∧ Q (.tup ((es.filter fun e => decide (e.1 ≠ w)).map encE)) []
theorem filter_snoc {α : Type} {p : α → Bool} {xs : List α} {i : Nat} {x : α} (h : xs[i]? = some x) : (xs.take (i + 1)).filter p = (xs.take i).filter p ++ if p x then [x] else [] := by
  rw [List.take_add_one, h, List.filter_append]
  simp only [Option.toList, List.filter_cons, List.filter_nil]
theorem cal_without_entry {P : Program} {w : World} {K : PySem.W.Frag} {mg : Str → Option Value} {base : Heap} (T : Tx mg) (Da : DefAt K mg "without_entry" s_without_entry)  : Cal P w K mg base (1) "without_entry" sp_without_entry := by
  refine calD (k := 0) Da sc_without_entry (fun f fd Fu => Fu.binds fun _ _ _ _ _ _ us hl => match us, hl with | [_, _], _ => rfl) (by row_cond dlen) (fun X F hX nm ds M R Q hS => ?_)
  have hst := hX.std
  have n_entries : NameAt X 0 "entries" := nm.name rfl (.inl rfl) (by decide) (by decide)
  have s_entries : StoreAt X 0 "entries" := nm.store rfl (.inl rfl)
  have n_word : NameAt X 1 "word" := nm.name rfl (.inr rfl) (by decide) (by decide)
  have s_word : StoreAt X 1 "word" := nm.store rfl (.inr rfl)
  have b_tuple : BltAt X "tuple" (.type "tuple") := nm.blt hX rfl T.z_tuple bo_tuple (by decide) (by decide)
  obtain ⟨es, w, rfl, rfl, hz, hq⟩ := hS
  row_cond dstart
  refine wss_cons ?_
  row_cond go
  refine we_lc' hst (own := [("entry", 2)]) (nm.blk (by decide +kernel)) (fun _ => rfl) rfl ?_
  row_cond go
  refine lc_name1 hX (by rw [nm.N]; rfl) (by first | exact .inl rfl | exact .inr rfl) (fun i acc M' => acc = ((es.take i).filter fun e => decide (e.1 ≠ w)).map encE ∧ M' = []) ⟨rfl, rfl⟩ (fun _ _ _ _ _ => (inferInstance : SeeT _ _ _ _).see) (fun a i x acc M' hx hW => ?_) (fun a acc M' hW => ?_)
  · obtain ⟨rfl, rfl⟩ := hW
    rw [List.getElem?_map] at hx
    obtain ⟨e, he, rfl⟩ := Option.map_eq_some_iff.mp hx
    refine put_go (fun X' hb => ?_)
    have hX_X' := hb.inn hX
    have hst_X' := hX_X'.std
    have n_entry_X' : NameAt X' 2 "entry" := hb.name (by rw [nm.N]; rfl) (by first | exact .inl rfl | exact .inr (.inl rfl) | exact .inr (.inr rfl)) (by decide) (by decide)
    have s_entry_X' : StoreAt X' 2 "entry" := hb.store (by rw [nm.N]; rfl) (by first | exact .inl rfl | exact .inr rfl)
    have n_word_X' : NameAt X' 1 "word" := hb.name (by rw [nm.N]; rfl) (by first | exact .inl rfl | exact .inr (.inl rfl) | exact .inr (.inr rfl)) (by decide) (by decide)
    row_cond go
    · rename_i hne X2 hb2
      have hX_X2 := hb2.inn hX
      have hst_X2 := hX_X2.std
      have n_entry_X2 : NameAt X2 2 "entry" := hb2.name (by rw [nm.N]; rfl) (by first | exact .inl rfl | exact .inr (.inl rfl) | exact .inr (.inr rfl)) (by decide) (by decide)
      have s_entry_X2 : StoreAt X2 2 "entry" := hb2.store (by rw [nm.N]; rfl) (by first | exact .inl rfl | exact .inr rfl)
      have n_word_X2 : NameAt X2 1 "word" := hb2.name (by rw [nm.N]; rfl) (by first | exact .inl rfl | exact .inr (.inl rfl) | exact .inr (.inr rfl)) (by decide) (by decide)
      row_cond go
      refine lcend_id (by
        have h1 := List.length_filter_le (fun e => decide (e.1 ≠ w)) (es.take i)
        have h2 := (List.getElem?_eq_some_iff.mp he).1
        rw [List.length_take] at h1
        rw [List.length_map]
        show _ < 16777216
        omega) ⟨?_, rfl⟩
      rw [filter_snoc he, if_pos (by simpa using hne), List.map_append]
      rfl
    · rename_i hne
      refine ⟨_, [], rfl, ?_, rfl⟩
      rw [filter_snoc he, if_neg (by simpa using hne), List.append_nil]
  · obtain ⟨rfl, rfl⟩ := hW
    row_cond go
    refine rt0 ?_
    rw [List.length_map, List.take_length]
    exact hq

end K18


namespace K18
open PySem PySem.Spec PyProof.Rows L2 DL
local macro_rules | `(tactic| row_cond dcall) => `(tactic| first
  | ((with_reducible refine' we_callX (x := "chunks") ?c ?x ?j ?g ?d ?e ?p ?_); (case c => assumption); (case x => assumption); (case j => first | decide | exact Nat.le_refl _ | omega); (case g => assumption); (case d => decide); (case e => rfl); (case p => rfl))
  | ((with_reducible refine' we_callK (x := "chunks") ?c ?x ?j ?g ?a ?k ?d ?e ?p ?_); (case c => assumption); (case x => assumption); (case j => first | decide | exact Nat.le_refl _ | omega); (case g => assumption); (case a => rfl); (case k => rfl); (case d => decide); (case e => rfl); (case p => rfl))
  | ((with_reducible refine' we_call (x := "refs") ?c ?x ?j ?g ?d ?e ?p ?_); (case c => assumption); (case x => assumption); (case j => first | decide | exact Nat.le_refl _ | omega); (case g => assumption); (case d => decide); (case e => rfl); (case p => rfl))
  | ((with_reducible refine' we_call (x := "find_entry") ?c ?x ?j ?g ?d ?e ?p ?_); (case c => assumption); (case x => assumption); (case j => first | decide | exact Nat.le_refl _ | omega); (case g => assumption); (case d => decide); (case e => rfl); (case p => rfl))
  | ((with_reducible refine' we_call (x := "with_entry") ?c ?x ?j ?g ?d ?e ?p ?_); (case c => assumption); (case x => assumption); (case j => first | decide | exact Nat.le_refl _ | omega); (case g => assumption); (case d => decide); (case e => rfl); (case p => rfl))
  | ((with_reducible refine' we_call (x := "without_entry") ?c ?x ?j ?g ?d ?e ?p ?_); (case c => assumption); (case x => assumption); (case j => first | decide | exact Nat.le_refl _ | omega); (case g => assumption); (case d => decide); (case e => rfl); (case p => rfl))
  | ((with_reducible refine' we_call (x := "_law_mix") ?c ?x ?j ?g ?d ?e ?p ?_); (case c => assumption); (case x => assumption); (case j => first | decide | exact Nat.le_refl _ | omega); (case g => assumption); (case d => decide); (case e => rfl); (case p => rfl))
  | ((with_reducible refine' we_call (x := "_law_start") ?c ?x ?j ?g ?d ?e ?p ?_); (case c => assumption); (case x => assumption); (case j => first | decide | exact Nat.le_refl _ | omega); (case g => assumption); (case d => decide); (case e => rfl); (case p => rfl))
  | ((with_reducible refine' we_call1 (x := "_law_next") ?c ?x ?j ?g ?d ?e ?p ?_); (case c => assumption); (case x => assumption); (case j => first | decide | exact Nat.le_refl _ | omega); (case g => assumption); (case d => decide); (case e => rfl); (case p => rfl))
  | ((with_reducible refine' we_call (x := "_law_is") ?c ?x ?j ?g ?d ?e ?p ?_); (case c => assumption); (case x => assumption); (case j => first | decide | exact Nat.le_refl _ | omega); (case g => assumption); (case d => decide); (case e => rfl); (case p => rfl))
  | ((with_reducible refine' we_call1 (x := "_law_names") ?c ?x ?j ?g ?d ?e ?p ?_); (case c => assumption); (case x => assumption); (case j => first | decide | exact Nat.le_refl _ | omega); (case g => assumption); (case d => decide); (case e => rfl); (case p => rfl))
  | ((with_reducible refine' we_call1 (x := "_law_text") ?c ?x ?j ?g ?d ?e ?p ?_); (case c => assumption); (case x => assumption); (case j => first | decide | exact Nat.le_refl _ | omega); (case g => assumption); (case d => decide); (case e => rfl); (case p => rfl))
  | ((with_reducible refine' we_call (x := "_law_entries") ?c ?x ?j ?g ?d ?e ?p ?_); (case c => assumption); (case x => assumption); (case j => first | decide | exact Nat.le_refl _ | omega); (case g => assumption); (case d => decide); (case e => rfl); (case p => rfl))
  | ((with_reducible refine' we_call (x := "_law_told_refs") ?c ?x ?j ?g ?d ?e ?p ?_); (case c => assumption); (case x => assumption); (case j => first | decide | exact Nat.le_refl _ | omega); (case g => assumption); (case d => decide); (case e => rfl); (case p => rfl))
  | ((with_reducible refine' we_call (x := "_law_folder") ?c ?x ?j ?g ?d ?e ?p ?_); (case c => assumption); (case x => assumption); (case j => first | decide | exact Nat.le_refl _ | omega); (case g => assumption); (case d => decide); (case e => rfl); (case p => rfl))
  | ((with_reducible refine' we_call1 (x := "_law_file") ?c ?x ?j ?g ?d ?e ?p ?_); (case c => assumption); (case x => assumption); (case j => first | decide | exact Nat.le_refl _ | omega); (case g => assumption); (case d => decide); (case e => rfl); (case p => rfl))
  | ((with_reducible refine' we_call (x := "_law_pieces") ?c ?x ?j ?g ?d ?e ?p ?_); (case c => assumption); (case x => assumption); (case j => first | decide | exact Nat.le_refl _ | omega); (case g => assumption); (case d => decide); (case e => rfl); (case p => rfl))
  | ((with_reducible refine' we_call (x := "law") ?c ?x ?j ?g ?d ?e ?p ?_); (case c => assumption); (case x => assumption); (case j => first | decide | exact Nat.le_refl _ | omega); (case g => assumption); (case d => decide); (case e => rfl); (case p => rfl)))
/-! the steps: one line a construct -/
local macro_rules | `(tactic| row_cond dlen) => `(tactic| (intro ds M R Q h; first | (obtain ⟨h1, _⟩ := h; subst h1; rfl) | (obtain ⟨_, h1, _⟩ := h; subst h1; rfl) | (obtain ⟨_, _, h1, _⟩ := h; subst h1; rfl) | (obtain ⟨_, _, _, h1, _⟩ := h; subst h1; rfl) | (obtain ⟨_, _, _, _, h1, _⟩ := h; subst h1; rfl) | (obtain ⟨_, _, _, _, _, h1, _⟩ := h; subst h1; rfl) | (obtain ⟨_, _, _, _, _, _, h1, _⟩ := h; subst h1; rfl) | (obtain ⟨_, _, _, _, _, _, _, h1, _⟩ := h; subst h1; rfl) | (obtain ⟨_, _, _, _, _, _, _, _, h1, _⟩ := h; subst h1; rfl) | (obtain ⟨_, _, _, _, _, _, _, _, _, h1, _⟩ := h; subst h1; rfl) | (obtain ⟨_, _, _, _, _, _, _, _, _, _, h1, _⟩ := h; subst h1; rfl) | (obtain ⟨_, _, _, _, _, _, _, _, _, _, _, h1, _⟩ := h; subst h1; rfl) | (obtain ⟨_, _, _, _, _, _, _, _, _, _, _, _, h1, _⟩ := h; subst h1; rfl)))
local macro_rules | `(tactic| row_cond dsz) => `(tactic| first | exact Nat.le_of_ble_eq_true rfl | assumption | (simp only [List.length_map, List.length_cons, List.length_append, List.length_nil, List.length_reverse, List.length_take, List.length_drop, PySem.sizeLine]; omega))
/- expressions -/
local macro_rules | `(tactic| row_cond dE) => `(tactic| first
  | ((with_reducible refine' we_name ?n ?e ?_); (case n => assumption); (case e => rfl))
  | (with_reducible refine we_int ?_)
  | (with_reducible refine we_bl ?_)
  | (with_reducible refine we_str ?_)
  | (with_reducible refine we_non ?_)
  | (with_reducible refine we_bin ?_)
  | ((with_reducible refine' we_cmp ?n ?_); (case n => rfl))
  | (with_reducible refine we_slice ?_)
  | (with_reducible refine we_rev ?_)
  | ((with_reducible refine' we_ix ?n ?_); (case n => exact fun _ _ => rfl))
  | (with_reducible refine we_tupV ?_)
  | (with_reducible refine we_lstV ?_)
  | ((with_reducible refine' we_blt ?b ?n ?m ?_); (case b => assumption); (case n => rfl); (case m => rfl))
  | ((with_reducible refine' we_typ ?b ?n ?m ?_); (case b => assumption); (case n => rfl); (case m => rfl))
  | ((with_reducible refine' we_tyName ?b ?_); (case b => assumption))
  | (with_reducible refine we_one ?_)
  | (with_reducible refine we_and ?_)
  | (with_reducible refine we_or ?_)
  | (with_reducible refine we_not ?_)
  | (with_reducible refine we_ifexp ?_)
  | ((with_reducible refine' we_un ?n ?_); (case n => exact fun z => nomatch z))
  | row_cond dcall
  | ((with_reducible refine we_bm (T := "list") PySem.F.plainAttrs_list PySem.F.slot_list_append PySem.F.type_list_append ?a ?b ?c ?d ?e ?_); (case a => rfl); (case b => rfl); (case c => rfl); (case d => rfl); (case e => rfl))
  | ((with_reducible refine we_bm0 (T := "list") PySem.F.plainAttrs_list PySem.F.slot_list_pop PySem.F.type_list_pop ?a ?b ?_); (case a => rfl); (case b => rfl))
  | ((with_reducible refine we_bm (T := "list") PySem.F.plainAttrs_list PySem.F.slot_list_extend PySem.F.type_list_extend ?a ?b ?c ?d ?e ?_); (case a => rfl); (case b => rfl); (case c => rfl); (case d => rfl); (case e => rfl)))
/- tests -/
local macro_rules | `(tactic| row_cond dT) => `(tactic| first
  | ((with_reducible refine' wt_cmp ?n ?_); (case n => rfl))
  | (with_reducible refine wt_not ?_)
  | (with_reducible refine wt_bool ?_)
  | (with_reducible refine ww_and1 ?_)
  | (with_reducible refine ww_or1 ?_)
  | (with_reducible refine ww_and ?_)
  | (with_reducible refine ww_or ?_)
  | ((with_reducible refine' wt_val ?n ?_); (case n => exact fun _ => rfl)))
/- statements -/
local macro_rules | `(tactic| row_cond dS) => `(tactic| first
  | (with_reducible refine wss_cons ?_)
  | (with_reducible refine wss_nil ?_)
  | ((with_reducible refine' ws_set ?a ?n ?h ?_); (case a => assumption); (case n => assumption); (case h => rfl))
  | ((with_reducible refine' ws_sub ?h ?_); (case h => rfl))
  | ((with_reducible refine' ws_asg ?a ?n ?h ?_); (case a => rfl); (case n => rfl); (case h => rfl))
  | (with_reducible refine ws_if ?_)
  | row_cond dret
  | ((with_reducible refine' ws_expr ?h ?_); (case h => rfl))
  | (with_reducible refine ws_pass ?_)
  | (with_reducible refine ws_break ?_)
  | (with_reducible refine ws_continue ?_)
  | (with_reducible refine ws_retN ?_))
local macro_rules | `(tactic| row_cond dSn) => `(tactic| first
  | (with_reducible refine wss_cons ?_)
  | (with_reducible refine wss_nil ?_)
  | ((with_reducible refine' ws_set ?a ?n ?h ?_); (case a => assumption); (case n => assumption); (case h => rfl))
  | ((with_reducible refine' ws_sub ?h ?_); (case h => rfl))
  | ((with_reducible refine' ws_asg ?a ?n ?h ?_); (case a => rfl); (case n => rfl); (case h => rfl))
  | row_cond dret
  | ((with_reducible refine' ws_expr ?h ?_); (case h => rfl))
  | (with_reducible refine ws_pass ?_)
  | (with_reducible refine ws_break ?_)
  | (with_reducible refine ws_continue ?_)
  | (with_reducible refine ws_retN ?_))
/- arguments, targets, values -/
local macro_rules | `(tactic| row_cond dV) => `(tactic| first
  | (with_reducible refine wa_nil ?_)
  | ((with_reducible refine' wa_cons ?n ?_); (case n => rfl))
  | (with_reducible refine wav_nil ?_)
  | ((with_reducible refine' wav_cons ?n ?_); (case n => rfl))
  | (with_reducible refine put_go ?_)
  | (with_reducible refine fz_lst ?_)
  | (with_reducible refine fz_tup ?_)
  | (with_reducible refine fz_id ?_)
  | (with_reducible refine own0_go ?_)
  | (with_reducible refine own1_go ?_)
  | (with_reducible refine app_go ?_)
  | (with_reducible refine mset_go ?_)
  | ((with_reducible refine' wg_name ?a ?n ?_); (case a => assumption); (case n => assumption))
  | ((with_reducible refine' wg_tup ?a ?n ?h ?_); (case a => assumption); (case n => rfl); (case h => rfl))
  | (with_reducible refine wgs_nil ?_)
  | ((with_reducible refine' wgs_cons ?n ?_); (case n => rfl))
  | (with_reducible refine wpt_none ?_)
  | (with_reducible refine wpt_some ?_)
  | ((with_reducible refine' wset_list ?n ?_); (case n => first | rfl | row_cond dix)))
/- what is walked -/
local macro_rules | `(tactic| row_cond dI) => `(tactic| first
  | ((with_reducible refine' wi_range1 ?a ?b ?c ?_); (case a => exact BltAt.gl (by assumption)); (case b => exact BltAt.mg (by assumption)); (case c => rfl))
  | ((with_reducible refine' wi_range2 ?a ?b ?c ?d ?_); (case a => exact BltAt.gl (by assumption)); (case b => exact BltAt.mg (by assumption)); (case c => rfl); (case d => rfl))
  | (with_reducible refine wi_val ?_)
  | (with_reducible refine wiv_list ?_)
  | (with_reducible refine wiv_tup ?_)
  | ((with_reducible refine' wgc_name ?a ?n ?h ?_); (case a => assumption); (case n => assumption); (case h => decide))
  | ((with_reducible refine' wgc_tup ?a ?n ?h ?_); (case a => assumption); (case n => rfl); (case h => rfl))
  | (with_reducible refine wgcs_nil ?_)
  | ((with_reducible refine' wgcs_cons ?n ?_); (case n => rfl))
  | (with_reducible refine wts_nil ?_)
  | (with_reducible refine wts_one ?_))
/- operations by values -/
local macro_rules | `(tactic| row_cond dO) => `(tactic| first
  | (with_reducible refine wo_add ?_)
  | (with_reducible refine wo_sub ?_)
  | ((with_reducible refine' wo_mulS ?n ?_); (case n => first | exact .inr ⟨by decide, by decide⟩ | exact .inl ⟨by decide, by decide⟩ | exact .inr ⟨by omega, by omega⟩ | exact .inl ⟨by omega, by omega⟩))
  | ((with_reducible refine' wo_fdiv ?n ?m ?_); (case n => first | decide | omega); (case m => first | decide | row_cond dlog))
  | ((with_reducible refine' wo_mod ?n ?_); (case n => first | decide | omega))
  | (with_reducible refine wo_powL ?_)
  | ((with_reducible refine' wo_pow ?n ?_); (case n => exact ⟨by decide, by decide, by decide⟩))
  | (with_reducible refine wo_xor ?_)
  | (with_reducible refine wo_lt ?_)
  | (with_reducible refine wo_le ?_)
  | (with_reducible refine wo_gt ?_)
  | (with_reducible refine wo_ge ?_)
  | (with_reducible refine wo_eqI ?_)
  | (with_reducible refine wo_neI ?_)
  | (with_reducible refine wo_eqS ?_)
  | (with_reducible refine wo_neS ?_)
  | (with_reducible refine wo_isN ?_)
  | (with_reducible refine wo_isnotN ?_)
  | (with_reducible refine wu_neg ?_)
  | (with_reducible refine wc_int ?_)
  | (with_reducible refine wc_intB ?_)
  | (with_reducible refine wc_abs ?_)
  | ((with_reducible refine' wc_max2 ?a ?_); (case a => assumption))
  | ((with_reducible refine' wc_min2 ?a ?_); (case a => assumption))
  | (with_reducible refine wc_list ?_)
  | (with_reducible refine wc_tuple ?_)
  | ((with_reducible refine' wc_lenS ?a ?_); (case a => row_cond dsz))
  | (with_reducible refine wc_lenM ?_)
  | (with_reducible refine wc_len ?_)
  | (with_reducible refine wc_isK ?_)
  | ((with_reducible refine' wc_allM ?a ?_); (case a => assumption))
  | ((with_reducible refine' wc_anyM ?a ?_); (case a => assumption))
  | ((with_reducible refine' wc_sum ?a ?_); (case a => assumption))
  | ((with_reducible refine' wx_list ?n ?_); (case n => row_cond dat))
  | ((with_reducible refine' wx_map ?a ?b ?_); (case a => omega); (case b => omega))
  | ((with_reducible refine' wx_seq ?a ?b ?_); (case a => omega); (case b => omega))
  | ((with_reducible refine' wx_tup ?n ?_); (case n => row_cond dat))
  | (with_reducible refine wsl_listM ?_)
  | (with_reducible refine wsl_list ?_)
  | (with_reducible refine wrev_goM ?_)
  | (with_reducible refine wrev_go ?_)
  | ((with_reducible refine' wo_catM ?n ?_); (case n => row_cond dsz))
  | ((with_reducible refine' wo_cat ?n ?_); (case n => row_cond dsz))
  | ((with_reducible refine' wm_append ?n ?_); (case n => row_cond dsz)))
local macro_rules | `(tactic| row_cond dat) => `(tactic| rfl)
local macro_rules | `(tactic| row_cond dix) => `(tactic| rfl)
local macro_rules | `(tactic| row_cond dlog) => `(tactic| first | decide | exact log_small (by omega) (by omega))
/- what stands between -/
local macro_rules | `(tactic| row_cond dQ) => `(tactic| first
  | (with_reducible refine ⟨_, rfl, ?_⟩)
  | (with_reducible refine br_true ?_)
  | (with_reducible refine br_false ?_)
  | (with_reducible refine rb_true ?_)
  | (with_reducible refine rb_false ?_)
  | ((with_reducible refine' br_dec ?_ ?_) <;> intro _)
  | ((with_reducible refine' br_ndec ?_ ?_) <;> intro _)
  | ((with_reducible refine' rb_dec ?_ ?_) <;> intro _)
  | ((with_reducible refine' rb_ndec ?_ ?_) <;> intro _)
  | (refine br_is rfl ?_)
  | (refine br_isnot rfl ?_)
  | (refine rb_is rfl ?_)
  | (refine rb_isnot rfl ?_)
  | ((with_reducible refine' ⟨⟨?a, ?b⟩, ?_⟩); (case a => omega); (case b => omega))
  | ((with_reducible refine' ⟨⟨?a, ?b, ?c, ?d⟩, ?_⟩); (case a => omega); (case b => omega); (case c => omega); (case d => omega))
  | (with_reducible refine app_go ?_)
  | (with_reducible refine ⟨tym_list, ?_⟩)
  | (with_reducible refine ⟨tym_str, ?_⟩)
  | ((with_reducible refine ⟨?n, ?_⟩); (case n => (show _ ≤ PySem.sizeLine); row_cond dsz))
  | (with_reducible intro _))
local macro_rules | `(tactic| row_cond dstart) => `(tactic| simp only [startD, List.map_cons, List.map_nil, List.length_cons, List.length_nil, List.cons_append, List.nil_append, Nat.zero_add, Nat.reduceAdd, Nat.reduceSub, List.replicate_succ, List.replicate_zero])
local macro_rules | `(tactic| row_cond d) => `(tactic| first | row_cond dE | row_cond dV | row_cond dO | row_cond dT | row_cond dS | row_cond dI | row_cond dmore | row_cond dspec | row_cond dQ)
local macro_rules | `(tactic| row_cond dn) => `(tactic| first | row_cond dE | row_cond dV | row_cond dO | row_cond dT | row_cond dSn | row_cond dI | row_cond dmore | row_cond dspec | row_cond dQ)
local macro_rules | `(tactic| row_cond gon) => `(tactic| repeat' (row_cond dn))
local macro_rules | `(tactic| row_cond go) => `(tactic| repeat' (row_cond d))
/- the later parts of the layer -/
local macro_rules | `(tactic| row_cond dE) => `(tactic| first
  | ((with_reducible refine' we_sortedSet ?a ?b ?c ?d ?e ?_); (case a => assumption); (case b => assumption); (case c => assumption); (case d => rfl); (case e => rfl))
  | ((with_reducible refine' we_get2 ?a ?b ?_); (case a => assumption); (case b => exact ⟨rfl, rfl, rfl, rfl⟩))
  | ((with_reducible refine' we_get1 ?a ?b ?_); (case a => assumption); (case b => exact ⟨rfl, rfl, rfl, rfl⟩))
  | ((with_reducible refine' we_pop1 ?b ?_); (case b => exact ⟨rfl, rfl, rfl, rfl⟩)))
local macro_rules | `(tactic| row_cond dO) => `(tactic| first
  | ((with_reducible refine' wc_sorted ?a ?b ?c ?_); (case a => assumption); (case b => decide); (case c => first | exact fun _ _ => trivial | assumption))
  | ((with_reducible refine' wsorted_go ?a ?_); (case a => first | assumption | omega))
  | ((with_reducible refine' wo_inD ?a ?b ?_); (case a => assumption); (case b => decide))
  | ((with_reducible refine' wo_ninD ?a ?b ?_); (case a => assumption); (case b => decide))
  | (with_reducible refine getD_K ?_)
  | (with_reducible refine getD_T ?_)
  | ((with_reducible refine' wsl_txt ?a ?_); (case a => row_cond dsz))
  | ((with_reducible refine' wx_strN ?a ?b ?c ?_); (case a => row_cond dsz); (case b => omega); (case c => first | omega | (simp only [PySem.Str.length]; omega)))
  | (with_reducible refine ⟨isDD_K, ?_⟩)
  | (with_reducible refine ⟨isDD_T, ?_⟩))
local macro_rules | `(tactic| row_cond dO) => `(tactic| first
  | ((with_reducible refine' wm_appendM ?n ?_); (case n => row_cond dsz)))
local macro_rules | `(tactic| row_cond dE) => `(tactic| ((with_reducible refine' we_con ?c ?_); (case c => assumption)))
local macro_rules | `(tactic| row_cond dV) => `(tactic| first
  | (with_reducible refine wk_nil ?_)
  | (with_reducible refine wk_cons ?_)
  | (with_reducible refine ⟨rfl, rfl, ?_⟩))
local macro_rules | `(tactic| row_cond dI) => `(tactic| ((with_reducible refine' wi_range3 ?a ?b ?c ?d ?_); (case a => exact BltAt.gl (by assumption)); (case b => exact BltAt.mg (by assumption)); (case c => rfl); (case d => rfl)))
local macro_rules | `(tactic| row_cond dO) => `(tactic| first
  | ((with_reducible refine' wc_lenS ?a ?_); (case a => row_cond dsz)))
local macro_rules | `(tactic| row_cond dO) => `(tactic| first
  | ((with_reducible refine' wo_addS ?a ?_); (case a => row_cond dsz)))
local macro_rules | `(tactic| row_cond dO) => `(tactic| first
  | ((with_reducible refine' wo_addS2 ?a ?_); (case a => first | decide | omega))
  | ((with_reducible refine' wsl_txt2 ?a ?_); (case a => first | decide | omega))
  | ((with_reducible refine' wc_lenS2 ?a ?_); (case a => first | decide | omega)))
local macro_rules | `(tactic| row_cond dE) => `(tactic| first
  | ((with_reducible refine we_bm (T := "str") PySem.F.plainAttrs_str PySem.F.slot_str_index PySem.F.type_str_index ?a ?b ?c ?d ?e ?_); (case a => rfl); (case b => rfl); (case c => rfl); (case d => rfl); (case e => rfl))
  | ((with_reducible refine we_bm (T := "str") PySem.F.plainAttrs_str PySem.F.slot_str_join PySem.F.type_str_join ?a ?b ?c ?d ?e ?_); (case a => rfl); (case b => rfl); (case c => rfl); (case d => rfl); (case e => rfl))
  | ((with_reducible refine we_bm (T := "str") PySem.F.plainAttrs_str PySem.F.slot_str_startswith PySem.F.type_str_startswith ?a ?b ?c ?d ?e ?_); (case a => rfl); (case b => rfl); (case c => rfl); (case d => rfl); (case e => rfl)))
local macro_rules | `(tactic| row_cond dO) => `(tactic| first
  | (with_reducible refine wm_starts ?_))
local macro_rules | `(tactic| row_cond dret) => `(tactic| (with_reducible refine ws_ret ?_))
local macro_rules | `(tactic| row_cond dO) => `(tactic| first
  | ((with_reducible refine' wx_asK ?a ?b ?_); (case a => assumption); (case b => assumption))
  | ((with_reducible refine' wo_inAsK ?a ?_); (case a => assumption))
  | ((with_reducible refine' wo_ninAsK ?a ?_); (case a => assumption))
  | ((with_reducible refine' wset_asK ?a ?b ?_); (case a => assumption); (case b => row_cond dsz))
  | (with_reducible refine getD_asK ?_)
  | ((with_reducible refine' popD_asK ?b ?_); (case b => assumption))
  | ((with_reducible refine' wx_asT ?a ?b ?_); (case a => assumption); (case b => assumption))
  | ((with_reducible refine' wo_inAsT ?a ?_); (case a => assumption))
  | ((with_reducible refine' wo_ninAsT ?a ?_); (case a => assumption))
  | ((with_reducible refine' wset_asT ?a ?b ?_); (case a => assumption); (case b => row_cond dsz))
  | (with_reducible refine getD_asT ?_)
  | ((with_reducible refine' wc_sortedAs ?a ?_); (case a => assumption)))
local macro_rules | `(tactic| row_cond dO) => `(tactic| first
  | (with_reducible refine wc_lenAsK ?_)
  | (with_reducible refine wc_lenAsT ?_))
local macro_rules | `(tactic| row_cond dI) => `(tactic| first
  | (with_reducible refine wiv_asK ?_))

instance EncAs.ent {w : Str} {s : Int} : EncAs encE (.tup [.str w, .int s]) (w, s) := ⟨rfl⟩
def ltE : Ent → Ent → Bool := ltP2 ltS ltI
def sp_with_entry : SpD := fun ds M _ Q => ∃ (es : List Ent) (w : Str) (s : Int), ds = [.tup (es.map encE), .str w, .int s] ∧ M = [] ∧ es.length ≤ 16777215 ∧ Q (.tup ((srt (ltP2 ltS ltI) ((es.filter fun e => decide (e.1 ≠ w)) ++ [(w, s)])).map encE)) []
theorem cal_with_entry {P : Program} {w : World} {K : PySem.W.Frag} {mg : Str → Option Value} {base : Heap} (T : Tx mg) (Da : DefAt K mg "with_entry" s_with_entry)  : Cal P w K mg base (1) "with_entry" sp_with_entry := by
  refine calD (k := 0) Da sc_with_entry (fun f fd Fu => Fu.binds fun _ _ _ _ _ _ us hl => match us, hl with | [_, _, _], _ => rfl) (by row_cond dlen) (fun X F hX nm ds M R Q hS => ?_)
  have hst := hX.std
  have n_entries : NameAt X 0 "entries" := nm.name rfl (.inl rfl) (by decide) (by decide)
  have s_entries : StoreAt X 0 "entries" := nm.store rfl (.inl rfl)
  have n_word : NameAt X 1 "word" := nm.name rfl (.inr rfl) (by decide) (by decide)
  have s_word : StoreAt X 1 "word" := nm.store rfl (.inr rfl)
  have n_slot : NameAt X 2 "slot" := nm.name rfl (.inl rfl) (by decide) (by decide)
  have s_slot : StoreAt X 2 "slot" := nm.store rfl (.inl rfl)
  have n_kept : NameAt X 3 "kept" := nm.name rfl (.inl rfl) (by decide) (by decide)
  have s_kept : StoreAt X 3 "kept" := nm.store rfl (.inl rfl)
  have b_tuple : BltAt X "tuple" (.type "tuple") := nm.blt hX rfl T.z_tuple bo_tuple (by decide) (by decide)
  have b_sorted : BltAt X "sorted" (.builtin "sorted") := nm.blt hX rfl T.z_sorted bo_sorted (by decide) (by decide)
  obtain ⟨es, w, s, rfl, rfl, hz, hq⟩ := hS
  row_cond dstart
  refine wss_cons ?_
  refine ws_setLc' (i := 3) hst (own := [("entry", 4)]) (by rw [nm.N]; rfl) (by rw [nm.sc]; rfl) (nm.swaps (by decide +kernel)) (nm.blk (by decide +kernel)) (fun _ => rfl) rfl ?_
  row_cond go
  refine lc_name1 hX (by rw [nm.N]; rfl) (by first | exact .inl rfl | exact .inr rfl) (fun i acc M' => acc = ((es.take i).filter fun e => decide (e.1 ≠ w)).map encE ∧ M' = []) ⟨rfl, rfl⟩ (fun _ _ _ _ _ => (inferInstance : SeeT _ _ _ _).see) (fun a i x acc M' hx hW => ?_) (fun a acc M' hW => ?_)
  · obtain ⟨rfl, rfl⟩ := hW
    rw [List.getElem?_map] at hx
    obtain ⟨e, he, rfl⟩ := Option.map_eq_some_iff.mp hx
    refine put_go (fun X' hb => ?_)
    have hX_X' := hb.inn hX
    have hst_X' := hX_X'.std
    have n_entry_X' : NameAt X' 4 "entry" := hb.name (by rw [nm.N]; rfl) (by first | exact .inl rfl | exact .inr (.inl rfl) | exact .inr (.inr rfl)) (by decide) (by decide)
    have s_entry_X' : StoreAt X' 4 "entry" := hb.store (by rw [nm.N]; rfl) (by first | exact .inl rfl | exact .inr rfl)
    have n_word_X' : NameAt X' 1 "word" := hb.name (by rw [nm.N]; rfl) (by first | exact .inl rfl | exact .inr (.inl rfl) | exact .inr (.inr rfl)) (by decide) (by decide)
    row_cond go
    · rename_i hne X2 hb2
      have hX_X2 := hb2.inn hX
      have hst_X2 := hX_X2.std
      have n_entry_X2 : NameAt X2 4 "entry" := hb2.name (by rw [nm.N]; rfl) (by first | exact .inl rfl | exact .inr (.inl rfl) | exact .inr (.inr rfl)) (by decide) (by decide)
      have s_entry_X2 : StoreAt X2 4 "entry" := hb2.store (by rw [nm.N]; rfl) (by first | exact .inl rfl | exact .inr rfl)
      have n_word_X2 : NameAt X2 1 "word" := hb2.name (by rw [nm.N]; rfl) (by first | exact .inl rfl | exact .inr (.inl rfl) | exact .inr (.inr rfl)) (by decide) (by decide)
      row_cond go
      refine lcend_id (by
        have h1 := List.length_filter_le (fun e => decide (e.1 ≠ w)) (es.take i)
        have h2 := (List.getElem?_eq_some_iff.mp he).1
        rw [List.length_take] at h1
        rw [List.length_map]
        show _ < 16777216
        omega) ⟨?_, rfl⟩
      rw [filter_snoc he, if_pos (by simpa using hne), List.map_append]
      rfl
    · rename_i hne
      refine ⟨_, [], rfl, ?_, rfl⟩
      rw [filter_snoc he, if_neg (by simpa using hne), List.append_nil]
  · obtain ⟨rfl, rfl⟩ := hW
    rw [List.length_map, List.take_length]
    have hl : (es.filter fun e => decide (e.1 ≠ w)).length ≤ es.length := List.length_filter_le _ _
    row_cond go
    exact rt0 hq

end K18


namespace K18
open PySem PySem.Spec PyProof.Rows L2 DL
local macro_rules | `(tactic| row_cond dcall) => `(tactic| first
  | ((with_reducible refine' we_callX (x := "chunks") ?c ?x ?j ?g ?d ?e ?p ?_); (case c => assumption); (case x => assumption); (case j => first | decide | exact Nat.le_refl _ | omega); (case g => assumption); (case d => decide); (case e => rfl); (case p => rfl))
  | ((with_reducible refine' we_callK (x := "chunks") ?c ?x ?j ?g ?a ?k ?d ?e ?p ?_); (case c => assumption); (case x => assumption); (case j => first | decide | exact Nat.le_refl _ | omega); (case g => assumption); (case a => rfl); (case k => rfl); (case d => decide); (case e => rfl); (case p => rfl))
  | ((with_reducible refine' we_call (x := "refs") ?c ?x ?j ?g ?d ?e ?p ?_); (case c => assumption); (case x => assumption); (case j => first | decide | exact Nat.le_refl _ | omega); (case g => assumption); (case d => decide); (case e => rfl); (case p => rfl))
  | ((with_reducible refine' we_call (x := "find_entry") ?c ?x ?j ?g ?d ?e ?p ?_); (case c => assumption); (case x => assumption); (case j => first | decide | exact Nat.le_refl _ | omega); (case g => assumption); (case d => decide); (case e => rfl); (case p => rfl))
  | ((with_reducible refine' we_call (x := "with_entry") ?c ?x ?j ?g ?d ?e ?p ?_); (case c => assumption); (case x => assumption); (case j => first | decide | exact Nat.le_refl _ | omega); (case g => assumption); (case d => decide); (case e => rfl); (case p => rfl))
  | ((with_reducible refine' we_call (x := "without_entry") ?c ?x ?j ?g ?d ?e ?p ?_); (case c => assumption); (case x => assumption); (case j => first | decide | exact Nat.le_refl _ | omega); (case g => assumption); (case d => decide); (case e => rfl); (case p => rfl))
  | ((with_reducible refine' we_call (x := "_law_mix") ?c ?x ?j ?g ?d ?e ?p ?_); (case c => assumption); (case x => assumption); (case j => first | decide | exact Nat.le_refl _ | omega); (case g => assumption); (case d => decide); (case e => rfl); (case p => rfl))
  | ((with_reducible refine' we_call (x := "_law_start") ?c ?x ?j ?g ?d ?e ?p ?_); (case c => assumption); (case x => assumption); (case j => first | decide | exact Nat.le_refl _ | omega); (case g => assumption); (case d => decide); (case e => rfl); (case p => rfl))
  | ((with_reducible refine' we_call1 (x := "_law_next") ?c ?x ?j ?g ?d ?e ?p ?_); (case c => assumption); (case x => assumption); (case j => first | decide | exact Nat.le_refl _ | omega); (case g => assumption); (case d => decide); (case e => rfl); (case p => rfl))
  | ((with_reducible refine' we_call (x := "_law_is") ?c ?x ?j ?g ?d ?e ?p ?_); (case c => assumption); (case x => assumption); (case j => first | decide | exact Nat.le_refl _ | omega); (case g => assumption); (case d => decide); (case e => rfl); (case p => rfl))
  | ((with_reducible refine' we_call1 (x := "_law_names") ?c ?x ?j ?g ?d ?e ?p ?_); (case c => assumption); (case x => assumption); (case j => first | decide | exact Nat.le_refl _ | omega); (case g => assumption); (case d => decide); (case e => rfl); (case p => rfl))
  | ((with_reducible refine' we_call1 (x := "_law_text") ?c ?x ?j ?g ?d ?e ?p ?_); (case c => assumption); (case x => assumption); (case j => first | decide | exact Nat.le_refl _ | omega); (case g => assumption); (case d => decide); (case e => rfl); (case p => rfl))
  | ((with_reducible refine' we_call (x := "_law_entries") ?c ?x ?j ?g ?d ?e ?p ?_); (case c => assumption); (case x => assumption); (case j => first | decide | exact Nat.le_refl _ | omega); (case g => assumption); (case d => decide); (case e => rfl); (case p => rfl))
  | ((with_reducible refine' we_call (x := "_law_told_refs") ?c ?x ?j ?g ?d ?e ?p ?_); (case c => assumption); (case x => assumption); (case j => first | decide | exact Nat.le_refl _ | omega); (case g => assumption); (case d => decide); (case e => rfl); (case p => rfl))
  | ((with_reducible refine' we_call (x := "_law_folder") ?c ?x ?j ?g ?d ?e ?p ?_); (case c => assumption); (case x => assumption); (case j => first | decide | exact Nat.le_refl _ | omega); (case g => assumption); (case d => decide); (case e => rfl); (case p => rfl))
  | ((with_reducible refine' we_call1 (x := "_law_file") ?c ?x ?j ?g ?d ?e ?p ?_); (case c => assumption); (case x => assumption); (case j => first | decide | exact Nat.le_refl _ | omega); (case g => assumption); (case d => decide); (case e => rfl); (case p => rfl))
  | ((with_reducible refine' we_call (x := "_law_pieces") ?c ?x ?j ?g ?d ?e ?p ?_); (case c => assumption); (case x => assumption); (case j => first | decide | exact Nat.le_refl _ | omega); (case g => assumption); (case d => decide); (case e => rfl); (case p => rfl))
  | ((with_reducible refine' we_call (x := "law") ?c ?x ?j ?g ?d ?e ?p ?_); (case c => assumption); (case x => assumption); (case j => first | decide | exact Nat.le_refl _ | omega); (case g => assumption); (case d => decide); (case e => rfl); (case p => rfl)))
/-! the steps: one line a construct -/
local macro_rules | `(tactic| row_cond dlen) => `(tactic| (intro ds M R Q h; first | (obtain ⟨h1, _⟩ := h; subst h1; rfl) | (obtain ⟨_, h1, _⟩ := h; subst h1; rfl) | (obtain ⟨_, _, h1, _⟩ := h; subst h1; rfl) | (obtain ⟨_, _, _, h1, _⟩ := h; subst h1; rfl) | (obtain ⟨_, _, _, _, h1, _⟩ := h; subst h1; rfl) | (obtain ⟨_, _, _, _, _, h1, _⟩ := h; subst h1; rfl) | (obtain ⟨_, _, _, _, _, _, h1, _⟩ := h; subst h1; rfl) | (obtain ⟨_, _, _, _, _, _, _, h1, _⟩ := h; subst h1; rfl) | (obtain ⟨_, _, _, _, _, _, _, _, h1, _⟩ := h; subst h1; rfl) | (obtain ⟨_, _, _, _, _, _, _, _, _, h1, _⟩ := h; subst h1; rfl) | (obtain ⟨_, _, _, _, _, _, _, _, _, _, h1, _⟩ := h; subst h1; rfl) | (obtain ⟨_, _, _, _, _, _, _, _, _, _, _, h1, _⟩ := h; subst h1; rfl) | (obtain ⟨_, _, _, _, _, _, _, _, _, _, _, _, h1, _⟩ := h; subst h1; rfl)))
local macro_rules | `(tactic| row_cond dsz) => `(tactic| first | exact Nat.le_of_ble_eq_true rfl | assumption | (simp only [List.length_map, List.length_cons, List.length_append, List.length_nil, List.length_reverse, List.length_take, List.length_drop, PySem.sizeLine]; omega))
/- expressions -/
local macro_rules | `(tactic| row_cond dE) => `(tactic| first
  | ((with_reducible refine' we_name ?n ?e ?_); (case n => assumption); (case e => rfl))
  | (with_reducible refine we_int ?_)
  | (with_reducible refine we_bl ?_)
  | (with_reducible refine we_str ?_)
  | (with_reducible refine we_non ?_)
  | (with_reducible refine we_bin ?_)
  | ((with_reducible refine' we_cmp ?n ?_); (case n => rfl))
  | (with_reducible refine we_slice ?_)
  | (with_reducible refine we_rev ?_)
  | ((with_reducible refine' we_ix ?n ?_); (case n => exact fun _ _ => rfl))
  | (with_reducible refine we_tupV ?_)
  | (with_reducible refine we_lstV ?_)
  | ((with_reducible refine' we_blt ?b ?n ?m ?_); (case b => assumption); (case n => rfl); (case m => rfl))
  | ((with_reducible refine' we_typ ?b ?n ?m ?_); (case b => assumption); (case n => rfl); (case m => rfl))
  | ((with_reducible refine' we_tyName ?b ?_); (case b => assumption))
  | (with_reducible refine we_one ?_)
  | (with_reducible refine we_and ?_)
  | (with_reducible refine we_or ?_)
  | (with_reducible refine we_not ?_)
  | (with_reducible refine we_ifexp ?_)
  | ((with_reducible refine' we_un ?n ?_); (case n => exact fun z => nomatch z))
  | row_cond dcall
  | ((with_reducible refine we_bm (T := "list") PySem.F.plainAttrs_list PySem.F.slot_list_append PySem.F.type_list_append ?a ?b ?c ?d ?e ?_); (case a => rfl); (case b => rfl); (case c => rfl); (case d => rfl); (case e => rfl))
  | ((with_reducible refine we_bm0 (T := "list") PySem.F.plainAttrs_list PySem.F.slot_list_pop PySem.F.type_list_pop ?a ?b ?_); (case a => rfl); (case b => rfl))
  | ((with_reducible refine we_bm (T := "list") PySem.F.plainAttrs_list PySem.F.slot_list_extend PySem.F.type_list_extend ?a ?b ?c ?d ?e ?_); (case a => rfl); (case b => rfl); (case c => rfl); (case d => rfl); (case e => rfl)))
/- tests -/
local macro_rules | `(tactic| row_cond dT) => `(tactic| first
  | ((with_reducible refine' wt_cmp ?n ?_); (case n => rfl))
  | (with_reducible refine wt_not ?_)
  | (with_reducible refine wt_bool ?_)
  | (with_reducible refine ww_and1 ?_)
  | (with_reducible refine ww_or1 ?_)
  | (with_reducible refine ww_and ?_)
  | (with_reducible refine ww_or ?_)
  | ((with_reducible refine' wt_val ?n ?_); (case n => exact fun _ => rfl)))
/- statements -/
local macro_rules | `(tactic| row_cond dS) => `(tactic| first
  | (with_reducible refine wss_cons ?_)
  | (with_reducible refine wss_nil ?_)
  | ((with_reducible refine' ws_set ?a ?n ?h ?_); (case a => assumption); (case n => assumption); (case h => rfl))
  | ((with_reducible refine' ws_sub ?h ?_); (case h => rfl))
  | ((with_reducible refine' ws_asg ?a ?n ?h ?_); (case a => rfl); (case n => rfl); (case h => rfl))
  | (with_reducible refine ws_if ?_)
  | row_cond dret
  | ((with_reducible refine' ws_expr ?h ?_); (case h => rfl))
  | (with_reducible refine ws_pass ?_)
  | (with_reducible refine ws_break ?_)
  | (with_reducible refine ws_continue ?_)
  | (with_reducible refine ws_retN ?_))
local macro_rules | `(tactic| row_cond dSn) => `(tactic| first
  | (with_reducible refine wss_cons ?_)
  | (with_reducible refine wss_nil ?_)
  | ((with_reducible refine' ws_set ?a ?n ?h ?_); (case a => assumption); (case n => assumption); (case h => rfl))
  | ((with_reducible refine' ws_sub ?h ?_); (case h => rfl))
  | ((with_reducible refine' ws_asg ?a ?n ?h ?_); (case a => rfl); (case n => rfl); (case h => rfl))
  | row_cond dret
  | ((with_reducible refine' ws_expr ?h ?_); (case h => rfl))
  | (with_reducible refine ws_pass ?_)
  | (with_reducible refine ws_break ?_)
  | (with_reducible refine ws_continue ?_)
  | (with_reducible refine ws_retN ?_))
/- arguments, targets, values -/
local macro_rules | `(tactic| row_cond dV) => `(tactic| first
  | (with_reducible refine wa_nil ?_)
  | ((with_reducible refine' wa_cons ?n ?_); (case n => rfl))
  | (with_reducible refine wav_nil ?_)
  | ((with_reducible refine' wav_cons ?n ?_); (case n => rfl))
  | (with_reducible refine put_go ?_)
  | (with_reducible refine fz_lst ?_)
  | (with_reducible refine fz_tup ?_)
  | (with_reducible refine fz_id ?_)
  | (with_reducible refine own0_go ?_)
  | (with_reducible refine own1_go ?_)
  | (with_reducible refine app_go ?_)
  | (with_reducible refine mset_go ?_)
  | ((with_reducible refine' wg_name ?a ?n ?_); (case a => assumption); (case n => assumption))
  | ((with_reducible refine' wg_tup ?a ?n ?h ?_); (case a => assumption); (case n => rfl); (case h => rfl))
  | (with_reducible refine wgs_nil ?_)
  | ((with_reducible refine' wgs_cons ?n ?_); (case n => rfl))
  | (with_reducible refine wpt_none ?_)
  | (with_reducible refine wpt_some ?_)
  | ((with_reducible refine' wset_list ?n ?_); (case n => first | rfl | row_cond dix)))
/- what is walked -/
local macro_rules | `(tactic| row_cond dI) => `(tactic| first
  | ((with_reducible refine' wi_range1 ?a ?b ?c ?_); (case a => exact BltAt.gl (by assumption)); (case b => exact BltAt.mg (by assumption)); (case c => rfl))
  | ((with_reducible refine' wi_range2 ?a ?b ?c ?d ?_); (case a => exact BltAt.gl (by assumption)); (case b => exact BltAt.mg (by assumption)); (case c => rfl); (case d => rfl))
  | (with_reducible refine wi_val ?_)
  | (with_reducible refine wiv_list ?_)
  | (with_reducible refine wiv_tup ?_)
  | ((with_reducible refine' wgc_name ?a ?n ?h ?_); (case a => assumption); (case n => assumption); (case h => decide))
  | ((with_reducible refine' wgc_tup ?a ?n ?h ?_); (case a => assumption); (case n => rfl); (case h => rfl))
  | (with_reducible refine wgcs_nil ?_)
  | ((with_reducible refine' wgcs_cons ?n ?_); (case n => rfl))
  | (with_reducible refine wts_nil ?_)
  | (with_reducible refine wts_one ?_))
/- operations by values -/
local macro_rules | `(tactic| row_cond dO) => `(tactic| first
  | (with_reducible refine wo_add ?_)
  | (with_reducible refine wo_sub ?_)
  | ((with_reducible refine' wo_mulS ?n ?_); (case n => first | exact .inr ⟨by decide, by decide⟩ | exact .inl ⟨by decide, by decide⟩ | exact .inr ⟨by omega, by omega⟩ | exact .inl ⟨by omega, by omega⟩))
  | ((with_reducible refine' wo_fdiv ?n ?m ?_); (case n => first | decide | omega); (case m => first | decide | row_cond dlog))
  | ((with_reducible refine' wo_mod ?n ?_); (case n => first | decide | omega))
  | (with_reducible refine wo_powL ?_)
  | ((with_reducible refine' wo_pow ?n ?_); (case n => exact ⟨by decide, by decide, by decide⟩))
  | (with_reducible refine wo_xor ?_)
  | (with_reducible refine wo_lt ?_)
  | (with_reducible refine wo_le ?_)
  | (with_reducible refine wo_gt ?_)
  | (with_reducible refine wo_ge ?_)
  | (with_reducible refine wo_eqI ?_)
  | (with_reducible refine wo_neI ?_)
  | (with_reducible refine wo_eqS ?_)
  | (with_reducible refine wo_neS ?_)
  | (with_reducible refine wo_isN ?_)
  | (with_reducible refine wo_isnotN ?_)
  | (with_reducible refine wu_neg ?_)
  | (with_reducible refine wc_int ?_)
  | (with_reducible refine wc_intB ?_)
  | (with_reducible refine wc_abs ?_)
  | ((with_reducible refine' wc_max2 ?a ?_); (case a => assumption))
  | ((with_reducible refine' wc_min2 ?a ?_); (case a => assumption))
  | (with_reducible refine wc_list ?_)
  | (with_reducible refine wc_tuple ?_)
  | ((with_reducible refine' wc_lenS ?a ?_); (case a => row_cond dsz))
  | (with_reducible refine wc_lenM ?_)
  | (with_reducible refine wc_len ?_)
  | (with_reducible refine wc_isK ?_)
  | ((with_reducible refine' wc_allM ?a ?_); (case a => assumption))
  | ((with_reducible refine' wc_anyM ?a ?_); (case a => assumption))
  | ((with_reducible refine' wc_sum ?a ?_); (case a => assumption))
  | ((with_reducible refine' wx_list ?n ?_); (case n => row_cond dat))
  | ((with_reducible refine' wx_map ?a ?b ?_); (case a => omega); (case b => omega))
  | ((with_reducible refine' wx_seq ?a ?b ?_); (case a => omega); (case b => omega))
  | ((with_reducible refine' wx_tup ?n ?_); (case n => row_cond dat))
  | (with_reducible refine wsl_listM ?_)
  | (with_reducible refine wsl_list ?_)
  | (with_reducible refine wrev_goM ?_)
  | (with_reducible refine wrev_go ?_)
  | ((with_reducible refine' wo_catM ?n ?_); (case n => row_cond dsz))
  | ((with_reducible refine' wo_cat ?n ?_); (case n => row_cond dsz))
  | ((with_reducible refine' wm_append ?n ?_); (case n => row_cond dsz)))
local macro_rules | `(tactic| row_cond dat) => `(tactic| rfl)
local macro_rules | `(tactic| row_cond dix) => `(tactic| rfl)
local macro_rules | `(tactic| row_cond dlog) => `(tactic| first | decide | exact log_small (by omega) (by omega))
/- what stands between -/
local macro_rules | `(tactic| row_cond dQ) => `(tactic| first
  | (with_reducible refine ⟨_, rfl, ?_⟩)
  | (with_reducible refine br_true ?_)
  | (with_reducible refine br_false ?_)
  | (with_reducible refine rb_true ?_)
  | (with_reducible refine rb_false ?_)
  | ((with_reducible refine' br_dec ?_ ?_) <;> intro _)
  | ((with_reducible refine' br_ndec ?_ ?_) <;> intro _)
  | ((with_reducible refine' rb_dec ?_ ?_) <;> intro _)
  | ((with_reducible refine' rb_ndec ?_ ?_) <;> intro _)
  | (refine br_is rfl ?_)
  | (refine br_isnot rfl ?_)
  | (refine rb_is rfl ?_)
  | (refine rb_isnot rfl ?_)
  | ((with_reducible refine' ⟨⟨?a, ?b⟩, ?_⟩); (case a => omega); (case b => omega))
  | ((with_reducible refine' ⟨⟨?a, ?b, ?c, ?d⟩, ?_⟩); (case a => omega); (case b => omega); (case c => omega); (case d => omega))
  | (with_reducible refine app_go ?_)
  | (with_reducible refine ⟨tym_list, ?_⟩)
  | (with_reducible refine ⟨tym_str, ?_⟩)
  | ((with_reducible refine ⟨?n, ?_⟩); (case n => (show _ ≤ PySem.sizeLine); row_cond dsz))
  | (with_reducible intro _))
local macro_rules | `(tactic| row_cond dstart) => `(tactic| simp only [startD, List.map_cons, List.map_nil, List.length_cons, List.length_nil, List.cons_append, List.nil_append, Nat.zero_add, Nat.reduceAdd, Nat.reduceSub, List.replicate_succ, List.replicate_zero])
local macro_rules | `(tactic| row_cond d) => `(tactic| first | row_cond dE | row_cond dV | row_cond dO | row_cond dT | row_cond dS | row_cond dI | row_cond dmore | row_cond dspec | row_cond dQ)
local macro_rules | `(tactic| row_cond dn) => `(tactic| first | row_cond dE | row_cond dV | row_cond dO | row_cond dT | row_cond dSn | row_cond dI | row_cond dmore | row_cond dspec | row_cond dQ)
local macro_rules | `(tactic| row_cond gon) => `(tactic| repeat' (row_cond dn))
local macro_rules | `(tactic| row_cond go) => `(tactic| repeat' (row_cond d))
/- the later parts of the layer -/
local macro_rules | `(tactic| row_cond dE) => `(tactic| first
  | ((with_reducible refine' we_sortedSet ?a ?b ?c ?d ?e ?_); (case a => assumption); (case b => assumption); (case c => assumption); (case d => rfl); (case e => rfl))
  | ((with_reducible refine' we_get2 ?a ?b ?_); (case a => assumption); (case b => exact ⟨rfl, rfl, rfl, rfl⟩))
  | ((with_reducible refine' we_get1 ?a ?b ?_); (case a => assumption); (case b => exact ⟨rfl, rfl, rfl, rfl⟩))
  | ((with_reducible refine' we_pop1 ?b ?_); (case b => exact ⟨rfl, rfl, rfl, rfl⟩)))
local macro_rules | `(tactic| row_cond dO) => `(tactic| first
  | ((with_reducible refine' wc_sorted ?a ?b ?c ?_); (case a => assumption); (case b => decide); (case c => first | exact fun _ _ => trivial | assumption))
  | ((with_reducible refine' wsorted_go ?a ?_); (case a => first | assumption | omega))
  | ((with_reducible refine' wo_inD ?a ?b ?_); (case a => assumption); (case b => decide))
  | ((with_reducible refine' wo_ninD ?a ?b ?_); (case a => assumption); (case b => decide))
  | (with_reducible refine getD_K ?_)
  | (with_reducible refine getD_T ?_)
  | ((with_reducible refine' wsl_txt ?a ?_); (case a => row_cond dsz))
  | ((with_reducible refine' wx_strN ?a ?b ?c ?_); (case a => row_cond dsz); (case b => omega); (case c => first | omega | (simp only [PySem.Str.length]; omega)))
  | (with_reducible refine ⟨isDD_K, ?_⟩)
  | (with_reducible refine ⟨isDD_T, ?_⟩))
local macro_rules | `(tactic| row_cond dO) => `(tactic| first
  | ((with_reducible refine' wm_appendM ?n ?_); (case n => row_cond dsz)))
local macro_rules | `(tactic| row_cond dE) => `(tactic| ((with_reducible refine' we_con ?c ?_); (case c => assumption)))
local macro_rules | `(tactic| row_cond dV) => `(tactic| first
  | (with_reducible refine wk_nil ?_)
  | (with_reducible refine wk_cons ?_)
  | (with_reducible refine ⟨rfl, rfl, ?_⟩))
local macro_rules | `(tactic| row_cond dI) => `(tactic| ((with_reducible refine' wi_range3 ?a ?b ?c ?d ?_); (case a => exact BltAt.gl (by assumption)); (case b => exact BltAt.mg (by assumption)); (case c => rfl); (case d => rfl)))
local macro_rules | `(tactic| row_cond dO) => `(tactic| first
  | ((with_reducible refine' wc_lenS ?a ?_); (case a => row_cond dsz)))
local macro_rules | `(tactic| row_cond dO) => `(tactic| first
  | ((with_reducible refine' wo_addS ?a ?_); (case a => row_cond dsz)))
local macro_rules | `(tactic| row_cond dO) => `(tactic| first
  | ((with_reducible refine' wo_addS2 ?a ?_); (case a => first | decide | omega))
  | ((with_reducible refine' wsl_txt2 ?a ?_); (case a => first | decide | omega))
  | ((with_reducible refine' wc_lenS2 ?a ?_); (case a => first | decide | omega)))
local macro_rules | `(tactic| row_cond dE) => `(tactic| first
  | ((with_reducible refine we_bm (T := "str") PySem.F.plainAttrs_str PySem.F.slot_str_index PySem.F.type_str_index ?a ?b ?c ?d ?e ?_); (case a => rfl); (case b => rfl); (case c => rfl); (case d => rfl); (case e => rfl))
  | ((with_reducible refine we_bm (T := "str") PySem.F.plainAttrs_str PySem.F.slot_str_join PySem.F.type_str_join ?a ?b ?c ?d ?e ?_); (case a => rfl); (case b => rfl); (case c => rfl); (case d => rfl); (case e => rfl))
  | ((with_reducible refine we_bm (T := "str") PySem.F.plainAttrs_str PySem.F.slot_str_startswith PySem.F.type_str_startswith ?a ?b ?c ?d ?e ?_); (case a => rfl); (case b => rfl); (case c => rfl); (case d => rfl); (case e => rfl)))
local macro_rules | `(tactic| row_cond dO) => `(tactic| first
  | (with_reducible refine wm_starts ?_))
local macro_rules | `(tactic| row_cond dret) => `(tactic| (with_reducible refine ws_ret ?_))
local macro_rules | `(tactic| row_cond dO) => `(tactic| first
  | ((with_reducible refine' wx_asK ?a ?b ?_); (case a => assumption); (case b => assumption))
  | ((with_reducible refine' wo_inAsK ?a ?_); (case a => assumption))
  | ((with_reducible refine' wo_ninAsK ?a ?_); (case a => assumption))
  | ((with_reducible refine' wset_asK ?a ?b ?_); (case a => assumption); (case b => row_cond dsz))
  | (with_reducible refine getD_asK ?_)
  | ((with_reducible refine' popD_asK ?b ?_); (case b => assumption))
  | ((with_reducible refine' wx_asT ?a ?b ?_); (case a => assumption); (case b => assumption))
  | ((with_reducible refine' wo_inAsT ?a ?_); (case a => assumption))
  | ((with_reducible refine' wo_ninAsT ?a ?_); (case a => assumption))
  | ((with_reducible refine' wset_asT ?a ?b ?_); (case a => assumption); (case b => row_cond dsz))
  | (with_reducible refine getD_asT ?_)
  | ((with_reducible refine' wc_sortedAs ?a ?_); (case a => assumption)))
local macro_rules | `(tactic| row_cond dO) => `(tactic| first
  | (with_reducible refine wc_lenAsK ?_)
  | (with_reducible refine wc_lenAsT ?_))
local macro_rules | `(tactic| row_cond dI) => `(tactic| first
  | (with_reducible refine wiv_asK ?_))

/-! ### refs, chunks -/
/-- rows that name slots: the second item of each is a number -/
def RowsAt (rs : List D) (xs : List Int) : Prop := xs.length = rs.length ∧ ∀ (i : Nat) r x, rs[i]? = some r → xs[i]? = some x → ∃ a l, r = .tup (a :: .int x :: l)
def sp_refs : SpD := fun ds M _ Q => ∃ (k : Str) (s b : D), ds = [.tup [.str k, s, b]] ∧ M = [] ∧ ((k = "data" ∧ ∀ p, Q (.ref p) [(p, .lst [])]) ∨ (k ≠ "data" ∧ ∃ rs xs, b = .tup rs ∧ RowsAt rs xs ∧ xs.length ≤ 4000 ∧ ∀ p, Q (.ref p) [(p, .lst ((srt ltI (onceL xs)).map D.int))]))
theorem cal_refs {P : Program} {w : World} {K : PySem.W.Frag} {mg : Str → Option Value} {base : Heap} (T : Tx mg) (Da : DefAt K mg "refs" s_refs)  : Cal P w K mg base (1) "refs" sp_refs := by
  refine calD (k := 0) Da sc_refs (fun f fd Fu => Fu.binds fun _ _ _ _ _ _ us hl => match us, hl with | [_], _ => rfl) (by row_cond dlen) (fun X F hX nm ds M R Q hS => ?_)
  have hst := hX.std
  have n_record : NameAt X 0 "record" := nm.name rfl (.inl rfl) (by decide) (by decide)
  have s_record : StoreAt X 0 "record" := nm.store rfl (.inl rfl)
  have b_sorted : BltAt X "sorted" (.builtin "sorted") := nm.blt hX rfl T.z_sorted bo_sorted (by decide) (by decide)
  obtain ⟨k, s, b, rfl, rfl, hq⟩ := hS
  row_cond dstart
  refine wss_cons ?_
  rcases hq with ⟨rfl, hq⟩ | ⟨hk, rs, xs, rfl, ⟨hl, hr⟩, hz, hq⟩
  · row_cond go
    · exact rtR (hq _)
    · rename_i hn; exact absurd rfl hn
  · refine ws_mid (fun Γ => Γ = ⟨[some (.tup [.str k, s, .tup rs]), none], [], R⟩) ?_ ?_
    · row_cond go
      · rename_i he _; exact absurd he hk
      · rfl
    rintro Γ rfl
    refine wss_cons (ws_ret ?_)
    refine we_sortedSc (f := D.int) (own := [("item", 1)]) b_sorted hst (nm.blk (by decide +kernel)) (fun _ => rfl) rfl rfl ?_
    row_cond go
    refine ⟨rs, xs, .self _, hl, hz, fun i x y hx hy F' X' hb => ?_, fun p => ?_⟩
    · obtain ⟨a, l, rfl⟩ := hr i x y hx hy
      have hX_X' := hb.inn hX
      have hst_X' := hX_X'.std
      have n_item_X' : NameAt X' 1 "item" := hb.name (by rw [nm.N]; rfl) (by first | exact .inl rfl | exact .inr (.inl rfl) | exact .inr (.inr rfl)) (by decide) (by decide)
      have s_item_X' : StoreAt X' 1 "item" := hb.store (by rw [nm.N]; rfl) (by first | exact .inl rfl | exact .inr rfl)
      show WGC X' F' _ _ _ ⟨[some (.tup [.str k, s, .tup rs]), none], [], R⟩ _
      refine wgc_name hst_X' s_item_X' (by decide) (put_go fun X2 hb2 => ?_)
      have hX_X2 := hb2.inn hX
      have hst_X2 := hX_X2.std
      have n_item_X2 : NameAt X2 1 "item" := hb2.name (by rw [nm.N]; rfl) (by first | exact .inl rfl | exact .inr (.inl rfl) | exact .inr (.inr rfl)) (by decide) (by decide)
      have s_item_X2 : StoreAt X2 1 "item" := hb2.store (by rw [nm.N]; rfl) (by first | exact .inl rfl | exact .inr rfl)
      row_cond go
      refine wx_tup (x := .int y) (atI_nat (j := 1) rfl) ?_
      exact ⟨rfl, _, rfl⟩
    · exact rtR (hq _)
def pieces (z : Str) (n : Nat) : List Str := (List.range ((z.length + n - 1) / n)).map fun k => Txt.slice z (some (k * n : Nat)) (some (k * n + n : Nat))
def sp_chunks : SpD := fun ds M _ Q => ∃ (z : Str) (n : Nat), ds = [.str z, .int n] ∧ M = [] ∧ 0 < n ∧ n ≤ 1000 ∧ z.length ≤ 1000000 ∧ ∀ p, Q (.ref p) [(p, .lst ((pieces z n).map D.str))]
theorem pieces_n (m n : Nat) (h : 0 < n) : (if (0 : Int) < m then ((m : Int) - 0 - 1) / n + 1 else 0).toNat = (m + n - 1) / n := by
  by_cases h0 : 0 < m
  · rw [if_pos (by omega)]
    have e : (m : Int) - 0 - 1 = ((m - 1 : Nat) : Int) := by omega
    rw [e, ← Int.natCast_ediv]
    have e2 : (m + n - 1) / n = (m - 1) / n + 1 := by
      rw [show m + n - 1 = (m - 1) + n by omega, Nat.add_div_right _ h]
    have e3 : ((((m - 1) / n : Nat) : Int) + 1).toNat = (m - 1) / n + 1 := by
      generalize (m - 1) / n = z
      omega
    rw [e2, e3]
  · have : m = 0 := by omega
    subst this
    rw [if_neg (by omega), Nat.div_eq_of_lt (by omega)]; rfl
theorem cal_chunks {P : Program} {w : World} {K : PySem.W.Frag} {mg : Str → Option Value} {base : Heap} (T : Tx mg) (Da : DefAtD K mg "chunks" s_chunks [] [("size", (.int 4))])  : CalX P w K mg base (1) "chunks" [(.int 4)] sp_chunks ∧ CalK P w K mg base (1) "chunks" 1 ["size"] (fun ds es => ds ++ es) sp_chunks := by
  refine calX_kw1 (k := 0) (N := N_chunks) Da (fun G => by constructor) sc_chunks (fun D doc pm an cdv ct us ks h1 h2 => match us, ks, h1, h2 with | [_], [_], _, _ => ⟨_, _, _, _, _, _, rfl, rfl, rfl⟩) (fun D doc pm an cdv ct us ks h1 h2 => match us, ks, h1, h2 with | [_], [_], _, _ => rfl) (by row_cond dlen) (fun X F hX nm ds M R Q hS => ?_)
  have hst := hX.std
  have n_text : NameAt X 0 "text" := nm.name rfl (.inr rfl) (by decide) (by decide)
  have s_text : StoreAt X 0 "text" := nm.store rfl (.inr rfl)
  have n_size : NameAt X 1 "size" := nm.name rfl (.inr rfl) (by decide) (by decide)
  have s_size : StoreAt X 1 "size" := nm.store rfl (.inr rfl)
  have b_range : BltAt X "range" (.type "range") := nm.blt hX rfl T.z_range bo_range (by decide) (by decide)
  have b_len : BltAt X "len" (.builtin "len") := nm.blt hX rfl T.z_len bo_len (by decide) (by decide)
  have m_range : X.mg "range" = none := by rw [hX.mg]; exact T.z_range
  obtain ⟨z, n, rfl, rfl, h0, h1, hz, hq⟩ := hS
  row_cond dstart
  refine wss_cons ?_
  row_cond go
  refine we_lc' hst (own := [("k", 2)]) (nm.blk (by decide +kernel)) (fun _ => rfl) rfl ?_
  row_cond go
  refine ⟨0, z.length, n, rfl, ⟨by omega, by omega, by omega, by omega, by omega, by omega⟩, ?_⟩
  refine lc_name hX (by rw [nm.N]; rfl) (.inl rfl) (fun i acc M' => acc = ((pieces z n).take i).map D.str ∧ M' = []) ⟨rfl, rfl⟩ (fun _ _ _ _ _ => trivial) (fun a i x acc M' hx hW => ?_) (fun a acc M' hW => ?_)
  · obtain ⟨rfl, rfl⟩ := hW
    obtain ⟨hi, rfl⟩ := stepD_at hx
    rw [pieces_n _ _ h0] at hi
    refine put_go (fun X' hb => ?_)
    have hX_X' := hb.inn hX
    have hst_X' := hX_X'.std
    have n_k_X' : NameAt X' 2 "k" := hb.name (by rw [nm.N]; rfl) (by first | exact .inl rfl | exact .inr (.inl rfl) | exact .inr (.inr rfl)) (by decide) (by decide)
    have s_k_X' : StoreAt X' 2 "k" := hb.store (by rw [nm.N]; rfl) (by first | exact .inl rfl | exact .inr rfl)
    have n_text_X' : NameAt X' 0 "text" := hb.name (by rw [nm.N]; rfl) (by first | exact .inl rfl | exact .inr (.inl rfl) | exact .inr (.inr rfl)) (by decide) (by decide)
    have n_size_X' : NameAt X' 1 "size" := hb.name (by rw [nm.N]; rfl) (by first | exact .inl rfl | exact .inr (.inl rfl) | exact .inr (.inr rfl)) (by decide) (by decide)
    row_cond go
    refine lcend_id (by
      have := Nat.div_le_self (z.length + n - 1) n
      rw [List.length_map, List.length_take]
      show _ < 16777216
      omega) ⟨?_, rfl⟩
    have e : (pieces z n)[i]? = some (Txt.slice z (some (0 + (i : Int) * n)) (some (0 + (i : Int) * n + n))) := by
      unfold pieces
      rw [List.getElem?_map, List.getElem?_range hi]
      simp
    rw [List.take_add_one, e, List.map_append]
    rfl
  · obtain ⟨rfl, rfl⟩ := hW
    rw [stepD_len, pieces_n _ _ h0]
    row_cond go
    refine rtR ?_
    rw [List.take_of_length_le (by unfold pieces; rw [List.length_map, List.length_range]; exact Nat.le_refl _)]
    exact hq _

end K18


namespace K18
open PySem PySem.Spec PyProof.Rows L2 DL
local macro_rules | `(tactic| row_cond dcall) => `(tactic| first
  | ((with_reducible refine' we_callX (x := "chunks") ?c ?x ?j ?g ?d ?e ?p ?_); (case c => assumption); (case x => assumption); (case j => first | decide | exact Nat.le_refl _ | omega); (case g => assumption); (case d => decide); (case e => rfl); (case p => rfl))
  | ((with_reducible refine' we_callK (x := "chunks") ?c ?x ?j ?g ?a ?k ?d ?e ?p ?_); (case c => assumption); (case x => assumption); (case j => first | decide | exact Nat.le_refl _ | omega); (case g => assumption); (case a => rfl); (case k => rfl); (case d => decide); (case e => rfl); (case p => rfl))
  | ((with_reducible refine' we_call (x := "refs") ?c ?x ?j ?g ?d ?e ?p ?_); (case c => assumption); (case x => assumption); (case j => first | decide | exact Nat.le_refl _ | omega); (case g => assumption); (case d => decide); (case e => rfl); (case p => rfl))
  | ((with_reducible refine' we_call (x := "find_entry") ?c ?x ?j ?g ?d ?e ?p ?_); (case c => assumption); (case x => assumption); (case j => first | decide | exact Nat.le_refl _ | omega); (case g => assumption); (case d => decide); (case e => rfl); (case p => rfl))
  | ((with_reducible refine' we_call (x := "with_entry") ?c ?x ?j ?g ?d ?e ?p ?_); (case c => assumption); (case x => assumption); (case j => first | decide | exact Nat.le_refl _ | omega); (case g => assumption); (case d => decide); (case e => rfl); (case p => rfl))
  | ((with_reducible refine' we_call (x := "without_entry") ?c ?x ?j ?g ?d ?e ?p ?_); (case c => assumption); (case x => assumption); (case j => first | decide | exact Nat.le_refl _ | omega); (case g => assumption); (case d => decide); (case e => rfl); (case p => rfl))
  | ((with_reducible refine' we_call (x := "_law_mix") ?c ?x ?j ?g ?d ?e ?p ?_); (case c => assumption); (case x => assumption); (case j => first | decide | exact Nat.le_refl _ | omega); (case g => assumption); (case d => decide); (case e => rfl); (case p => rfl))
  | ((with_reducible refine' we_call (x := "_law_start") ?c ?x ?j ?g ?d ?e ?p ?_); (case c => assumption); (case x => assumption); (case j => first | decide | exact Nat.le_refl _ | omega); (case g => assumption); (case d => decide); (case e => rfl); (case p => rfl))
  | ((with_reducible refine' we_call1 (x := "_law_next") ?c ?x ?j ?g ?d ?e ?p ?_); (case c => assumption); (case x => assumption); (case j => first | decide | exact Nat.le_refl _ | omega); (case g => assumption); (case d => decide); (case e => rfl); (case p => rfl))
  | ((with_reducible refine' we_call (x := "_law_is") ?c ?x ?j ?g ?d ?e ?p ?_); (case c => assumption); (case x => assumption); (case j => first | decide | exact Nat.le_refl _ | omega); (case g => assumption); (case d => decide); (case e => rfl); (case p => rfl))
  | ((with_reducible refine' we_call1 (x := "_law_names") ?c ?x ?j ?g ?d ?e ?p ?_); (case c => assumption); (case x => assumption); (case j => first | decide | exact Nat.le_refl _ | omega); (case g => assumption); (case d => decide); (case e => rfl); (case p => rfl))
  | ((with_reducible refine' we_call1 (x := "_law_text") ?c ?x ?j ?g ?d ?e ?p ?_); (case c => assumption); (case x => assumption); (case j => first | decide | exact Nat.le_refl _ | omega); (case g => assumption); (case d => decide); (case e => rfl); (case p => rfl))
  | ((with_reducible refine' we_call (x := "_law_entries") ?c ?x ?j ?g ?d ?e ?p ?_); (case c => assumption); (case x => assumption); (case j => first | decide | exact Nat.le_refl _ | omega); (case g => assumption); (case d => decide); (case e => rfl); (case p => rfl))
  | ((with_reducible refine' we_call (x := "_law_told_refs") ?c ?x ?j ?g ?d ?e ?p ?_); (case c => assumption); (case x => assumption); (case j => first | decide | exact Nat.le_refl _ | omega); (case g => assumption); (case d => decide); (case e => rfl); (case p => rfl))
  | ((with_reducible refine' we_call (x := "_law_folder") ?c ?x ?j ?g ?d ?e ?p ?_); (case c => assumption); (case x => assumption); (case j => first | decide | exact Nat.le_refl _ | omega); (case g => assumption); (case d => decide); (case e => rfl); (case p => rfl))
  | ((with_reducible refine' we_call1 (x := "_law_file") ?c ?x ?j ?g ?d ?e ?p ?_); (case c => assumption); (case x => assumption); (case j => first | decide | exact Nat.le_refl _ | omega); (case g => assumption); (case d => decide); (case e => rfl); (case p => rfl))
  | ((with_reducible refine' we_call (x := "_law_pieces") ?c ?x ?j ?g ?d ?e ?p ?_); (case c => assumption); (case x => assumption); (case j => first | decide | exact Nat.le_refl _ | omega); (case g => assumption); (case d => decide); (case e => rfl); (case p => rfl))
  | ((with_reducible refine' we_call (x := "law") ?c ?x ?j ?g ?d ?e ?p ?_); (case c => assumption); (case x => assumption); (case j => first | decide | exact Nat.le_refl _ | omega); (case g => assumption); (case d => decide); (case e => rfl); (case p => rfl)))
/-! the steps: one line a construct -/
local macro_rules | `(tactic| row_cond dlen) => `(tactic| (intro ds M R Q h; first | (obtain ⟨h1, _⟩ := h; subst h1; rfl) | (obtain ⟨_, h1, _⟩ := h; subst h1; rfl) | (obtain ⟨_, _, h1, _⟩ := h; subst h1; rfl) | (obtain ⟨_, _, _, h1, _⟩ := h; subst h1; rfl) | (obtain ⟨_, _, _, _, h1, _⟩ := h; subst h1; rfl) | (obtain ⟨_, _, _, _, _, h1, _⟩ := h; subst h1; rfl) | (obtain ⟨_, _, _, _, _, _, h1, _⟩ := h; subst h1; rfl) | (obtain ⟨_, _, _, _, _, _, _, h1, _⟩ := h; subst h1; rfl) | (obtain ⟨_, _, _, _, _, _, _, _, h1, _⟩ := h; subst h1; rfl) | (obtain ⟨_, _, _, _, _, _, _, _, _, h1, _⟩ := h; subst h1; rfl) | (obtain ⟨_, _, _, _, _, _, _, _, _, _, h1, _⟩ := h; subst h1; rfl) | (obtain ⟨_, _, _, _, _, _, _, _, _, _, _, h1, _⟩ := h; subst h1; rfl) | (obtain ⟨_, _, _, _, _, _, _, _, _, _, _, _, h1, _⟩ := h; subst h1; rfl)))
local macro_rules | `(tactic| row_cond dsz) => `(tactic| first | exact Nat.le_of_ble_eq_true rfl | assumption | (simp only [List.length_map, List.length_cons, List.length_append, List.length_nil, List.length_reverse, List.length_take, List.length_drop, PySem.sizeLine]; omega))
/- expressions -/
local macro_rules | `(tactic| row_cond dE) => `(tactic| first
  | ((with_reducible refine' we_name ?n ?e ?_); (case n => assumption); (case e => rfl))
  | (with_reducible refine we_int ?_)
  | (with_reducible refine we_bl ?_)
  | (with_reducible refine we_str ?_)
  | (with_reducible refine we_non ?_)
  | (with_reducible refine we_bin ?_)
  | ((with_reducible refine' we_cmp ?n ?_); (case n => rfl))
  | (with_reducible refine we_slice ?_)
  | (with_reducible refine we_rev ?_)
  | ((with_reducible refine' we_ix ?n ?_); (case n => exact fun _ _ => rfl))
  | (with_reducible refine we_tupV ?_)
  | (with_reducible refine we_lstV ?_)
  | ((with_reducible refine' we_blt ?b ?n ?m ?_); (case b => assumption); (case n => rfl); (case m => rfl))
  | ((with_reducible refine' we_typ ?b ?n ?m ?_); (case b => assumption); (case n => rfl); (case m => rfl))
  | ((with_reducible refine' we_tyName ?b ?_); (case b => assumption))
  | (with_reducible refine we_one ?_)
  | (with_reducible refine we_and ?_)
  | (with_reducible refine we_or ?_)
  | (with_reducible refine we_not ?_)
  | (with_reducible refine we_ifexp ?_)
  | ((with_reducible refine' we_un ?n ?_); (case n => exact fun z => nomatch z))
  | row_cond dcall
  | ((with_reducible refine we_bm (T := "list") PySem.F.plainAttrs_list PySem.F.slot_list_append PySem.F.type_list_append ?a ?b ?c ?d ?e ?_); (case a => rfl); (case b => rfl); (case c => rfl); (case d => rfl); (case e => rfl))
  | ((with_reducible refine we_bm0 (T := "list") PySem.F.plainAttrs_list PySem.F.slot_list_pop PySem.F.type_list_pop ?a ?b ?_); (case a => rfl); (case b => rfl))
  | ((with_reducible refine we_bm (T := "list") PySem.F.plainAttrs_list PySem.F.slot_list_extend PySem.F.type_list_extend ?a ?b ?c ?d ?e ?_); (case a => rfl); (case b => rfl); (case c => rfl); (case d => rfl); (case e => rfl)))
/- tests -/
local macro_rules | `(tactic| row_cond dT) => `(tactic| first
  | ((with_reducible refine' wt_cmp ?n ?_); (case n => rfl))
  | (with_reducible refine wt_not ?_)
  | (with_reducible refine wt_bool ?_)
  | (with_reducible refine ww_and1 ?_)
  | (with_reducible refine ww_or1 ?_)
  | (with_reducible refine ww_and ?_)
  | (with_reducible refine ww_or ?_)
  | ((with_reducible refine' wt_val ?n ?_); (case n => exact fun _ => rfl)))
/- statements -/
local macro_rules | `(tactic| row_cond dS) => `(tactic| first
  | (with_reducible refine wss_cons ?_)
  | (with_reducible refine wss_nil ?_)
  | ((with_reducible refine' ws_set ?a ?n ?h ?_); (case a => assumption); (case n => assumption); (case h => rfl))
  | ((with_reducible refine' ws_sub ?h ?_); (case h => rfl))
  | ((with_reducible refine' ws_asg ?a ?n ?h ?_); (case a => rfl); (case n => rfl); (case h => rfl))
  | (with_reducible refine ws_if ?_)
  | row_cond dret
  | ((with_reducible refine' ws_expr ?h ?_); (case h => rfl))
  | (with_reducible refine ws_pass ?_)
  | (with_reducible refine ws_break ?_)
  | (with_reducible refine ws_continue ?_)
  | (with_reducible refine ws_retN ?_))
local macro_rules | `(tactic| row_cond dSn) => `(tactic| first
  | (with_reducible refine wss_cons ?_)
  | (with_reducible refine wss_nil ?_)
  | ((with_reducible refine' ws_set ?a ?n ?h ?_); (case a => assumption); (case n => assumption); (case h => rfl))
  | ((with_reducible refine' ws_sub ?h ?_); (case h => rfl))
  | ((with_reducible refine' ws_asg ?a ?n ?h ?_); (case a => rfl); (case n => rfl); (case h => rfl))
  | row_cond dret
  | ((with_reducible refine' ws_expr ?h ?_); (case h => rfl))
  | (with_reducible refine ws_pass ?_)
  | (with_reducible refine ws_break ?_)
  | (with_reducible refine ws_continue ?_)
  | (with_reducible refine ws_retN ?_))
/- arguments, targets, values -/
local macro_rules | `(tactic| row_cond dV) => `(tactic| first
  | (with_reducible refine wa_nil ?_)
  | ((with_reducible refine' wa_cons ?n ?_); (case n => rfl))
  | (with_reducible refine wav_nil ?_)
  | ((with_reducible refine' wav_cons ?n ?_); (case n => rfl))
  | (with_reducible refine put_go ?_)
  | (with_reducible refine fz_lst ?_)
  | (with_reducible refine fz_tup ?_)
  | (with_reducible refine fz_id ?_)
  | (with_reducible refine own0_go ?_)
  | (with_reducible refine own1_go ?_)
  | (with_reducible refine app_go ?_)
  | (with_reducible refine mset_go ?_)
  | ((with_reducible refine' wg_name ?a ?n ?_); (case a => assumption); (case n => assumption))
  | ((with_reducible refine' wg_tup ?a ?n ?h ?_); (case a => assumption); (case n => rfl); (case h => rfl))
  | (with_reducible refine wgs_nil ?_)
  | ((with_reducible refine' wgs_cons ?n ?_); (case n => rfl))
  | (with_reducible refine wpt_none ?_)
  | (with_reducible refine wpt_some ?_)
  | ((with_reducible refine' wset_list ?n ?_); (case n => first | rfl | row_cond dix)))
/- what is walked -/
local macro_rules | `(tactic| row_cond dI) => `(tactic| first
  | ((with_reducible refine' wi_range1 ?a ?b ?c ?_); (case a => exact BltAt.gl (by assumption)); (case b => exact BltAt.mg (by assumption)); (case c => rfl))
  | ((with_reducible refine' wi_range2 ?a ?b ?c ?d ?_); (case a => exact BltAt.gl (by assumption)); (case b => exact BltAt.mg (by assumption)); (case c => rfl); (case d => rfl))
  | (with_reducible refine wi_val ?_)
  | (with_reducible refine wiv_list ?_)
  | (with_reducible refine wiv_tup ?_)
  | ((with_reducible refine' wgc_name ?a ?n ?h ?_); (case a => assumption); (case n => assumption); (case h => decide))
  | ((with_reducible refine' wgc_tup ?a ?n ?h ?_); (case a => assumption); (case n => rfl); (case h => rfl))
  | (with_reducible refine wgcs_nil ?_)
  | ((with_reducible refine' wgcs_cons ?n ?_); (case n => rfl))
  | (with_reducible refine wts_nil ?_)
  | (with_reducible refine wts_one ?_))
/- operations by values -/
local macro_rules | `(tactic| row_cond dO) => `(tactic| first
  | (with_reducible refine wo_add ?_)
  | (with_reducible refine wo_sub ?_)
  | ((with_reducible refine' wo_mulS ?n ?_); (case n => first | exact .inr ⟨by decide, by decide⟩ | exact .inl ⟨by decide, by decide⟩ | exact .inr ⟨by omega, by omega⟩ | exact .inl ⟨by omega, by omega⟩))
  | ((with_reducible refine' wo_fdiv ?n ?m ?_); (case n => first | decide | omega); (case m => first | decide | row_cond dlog))
  | ((with_reducible refine' wo_mod ?n ?_); (case n => first | decide | omega))
  | (with_reducible refine wo_powL ?_)
  | ((with_reducible refine' wo_pow ?n ?_); (case n => exact ⟨by decide, by decide, by decide⟩))
  | (with_reducible refine wo_xor ?_)
  | (with_reducible refine wo_lt ?_)
  | (with_reducible refine wo_le ?_)
  | (with_reducible refine wo_gt ?_)
  | (with_reducible refine wo_ge ?_)
  | (with_reducible refine wo_eqI ?_)
  | (with_reducible refine wo_neI ?_)
  | (with_reducible refine wo_eqS ?_)
  | (with_reducible refine wo_neS ?_)
  | (with_reducible refine wo_isN ?_)
  | (with_reducible refine wo_isnotN ?_)
  | (with_reducible refine wu_neg ?_)
  | (with_reducible refine wc_int ?_)
  | (with_reducible refine wc_intB ?_)
  | (with_reducible refine wc_abs ?_)
  | ((with_reducible refine' wc_max2 ?a ?_); (case a => assumption))
  | ((with_reducible refine' wc_min2 ?a ?_); (case a => assumption))
  | (with_reducible refine wc_list ?_)
  | (with_reducible refine wc_tuple ?_)
  | ((with_reducible refine' wc_lenS ?a ?_); (case a => row_cond dsz))
  | (with_reducible refine wc_lenM ?_)
  | (with_reducible refine wc_len ?_)
  | (with_reducible refine wc_isK ?_)
  | ((with_reducible refine' wc_allM ?a ?_); (case a => assumption))
  | ((with_reducible refine' wc_anyM ?a ?_); (case a => assumption))
  | ((with_reducible refine' wc_sum ?a ?_); (case a => assumption))
  | ((with_reducible refine' wx_list ?n ?_); (case n => row_cond dat))
  | ((with_reducible refine' wx_map ?a ?b ?_); (case a => omega); (case b => omega))
  | ((with_reducible refine' wx_seq ?a ?b ?_); (case a => omega); (case b => omega))
  | ((with_reducible refine' wx_tup ?n ?_); (case n => row_cond dat))
  | (with_reducible refine wsl_listM ?_)
  | (with_reducible refine wsl_list ?_)
  | (with_reducible refine wrev_goM ?_)
  | (with_reducible refine wrev_go ?_)
  | ((with_reducible refine' wo_catM ?n ?_); (case n => row_cond dsz))
  | ((with_reducible refine' wo_cat ?n ?_); (case n => row_cond dsz))
  | ((with_reducible refine' wm_append ?n ?_); (case n => row_cond dsz)))
local macro_rules | `(tactic| row_cond dat) => `(tactic| rfl)
local macro_rules | `(tactic| row_cond dix) => `(tactic| rfl)
local macro_rules | `(tactic| row_cond dlog) => `(tactic| first | decide | exact log_small (by omega) (by omega))
/- what stands between -/
local macro_rules | `(tactic| row_cond dQ) => `(tactic| first
  | (with_reducible refine ⟨_, rfl, ?_⟩)
  | (with_reducible refine br_true ?_)
  | (with_reducible refine br_false ?_)
  | (with_reducible refine rb_true ?_)
  | (with_reducible refine rb_false ?_)
  | ((with_reducible refine' br_dec ?_ ?_) <;> intro _)
  | ((with_reducible refine' br_ndec ?_ ?_) <;> intro _)
  | ((with_reducible refine' rb_dec ?_ ?_) <;> intro _)
  | ((with_reducible refine' rb_ndec ?_ ?_) <;> intro _)
  | (refine br_is rfl ?_)
  | (refine br_isnot rfl ?_)
  | (refine rb_is rfl ?_)
  | (refine rb_isnot rfl ?_)
  | ((with_reducible refine' ⟨⟨?a, ?b⟩, ?_⟩); (case a => omega); (case b => omega))
  | ((with_reducible refine' ⟨⟨?a, ?b, ?c, ?d⟩, ?_⟩); (case a => omega); (case b => omega); (case c => omega); (case d => omega))
  | (with_reducible refine app_go ?_)
  | (with_reducible refine ⟨tym_list, ?_⟩)
  | (with_reducible refine ⟨tym_str, ?_⟩)
  | ((with_reducible refine ⟨?n, ?_⟩); (case n => (show _ ≤ PySem.sizeLine); row_cond dsz))
  | (with_reducible intro _))
local macro_rules | `(tactic| row_cond dstart) => `(tactic| simp only [startD, List.map_cons, List.map_nil, List.length_cons, List.length_nil, List.cons_append, List.nil_append, Nat.zero_add, Nat.reduceAdd, Nat.reduceSub, List.replicate_succ, List.replicate_zero])
local macro_rules | `(tactic| row_cond d) => `(tactic| first | row_cond dE | row_cond dV | row_cond dO | row_cond dT | row_cond dS | row_cond dI | row_cond dmore | row_cond dspec | row_cond dQ)
local macro_rules | `(tactic| row_cond dn) => `(tactic| first | row_cond dE | row_cond dV | row_cond dO | row_cond dT | row_cond dSn | row_cond dI | row_cond dmore | row_cond dspec | row_cond dQ)
local macro_rules | `(tactic| row_cond gon) => `(tactic| repeat' (row_cond dn))
local macro_rules | `(tactic| row_cond go) => `(tactic| repeat' (row_cond d))
/- the later parts of the layer -/
local macro_rules | `(tactic| row_cond dE) => `(tactic| first
  | ((with_reducible refine' we_sortedSet ?a ?b ?c ?d ?e ?_); (case a => assumption); (case b => assumption); (case c => assumption); (case d => rfl); (case e => rfl))
  | ((with_reducible refine' we_get2 ?a ?b ?_); (case a => assumption); (case b => exact ⟨rfl, rfl, rfl, rfl⟩))
  | ((with_reducible refine' we_get1 ?a ?b ?_); (case a => assumption); (case b => exact ⟨rfl, rfl, rfl, rfl⟩))
  | ((with_reducible refine' we_pop1 ?b ?_); (case b => exact ⟨rfl, rfl, rfl, rfl⟩)))
local macro_rules | `(tactic| row_cond dO) => `(tactic| first
  | ((with_reducible refine' wc_sorted ?a ?b ?c ?_); (case a => assumption); (case b => decide); (case c => first | exact fun _ _ => trivial | assumption))
  | ((with_reducible refine' wsorted_go ?a ?_); (case a => first | assumption | omega))
  | ((with_reducible refine' wo_inD ?a ?b ?_); (case a => assumption); (case b => decide))
  | ((with_reducible refine' wo_ninD ?a ?b ?_); (case a => assumption); (case b => decide))
  | (with_reducible refine getD_K ?_)
  | (with_reducible refine getD_T ?_)
  | ((with_reducible refine' wsl_txt ?a ?_); (case a => row_cond dsz))
  | ((with_reducible refine' wx_strN ?a ?b ?c ?_); (case a => row_cond dsz); (case b => omega); (case c => first | omega | (simp only [PySem.Str.length]; omega)))
  | (with_reducible refine ⟨isDD_K, ?_⟩)
  | (with_reducible refine ⟨isDD_T, ?_⟩))
local macro_rules | `(tactic| row_cond dO) => `(tactic| first
  | ((with_reducible refine' wm_appendM ?n ?_); (case n => row_cond dsz)))
local macro_rules | `(tactic| row_cond dE) => `(tactic| ((with_reducible refine' we_con ?c ?_); (case c => assumption)))
local macro_rules | `(tactic| row_cond dV) => `(tactic| first
  | (with_reducible refine wk_nil ?_)
  | (with_reducible refine wk_cons ?_)
  | (with_reducible refine ⟨rfl, rfl, ?_⟩))
local macro_rules | `(tactic| row_cond dI) => `(tactic| ((with_reducible refine' wi_range3 ?a ?b ?c ?d ?_); (case a => exact BltAt.gl (by assumption)); (case b => exact BltAt.mg (by assumption)); (case c => rfl); (case d => rfl)))
local macro_rules | `(tactic| row_cond dO) => `(tactic| first
  | ((with_reducible refine' wc_lenS ?a ?_); (case a => row_cond dsz)))
local macro_rules | `(tactic| row_cond dO) => `(tactic| first
  | ((with_reducible refine' wo_addS ?a ?_); (case a => row_cond dsz)))
local macro_rules | `(tactic| row_cond dO) => `(tactic| first
  | ((with_reducible refine' wo_addS2 ?a ?_); (case a => first | decide | omega))
  | ((with_reducible refine' wsl_txt2 ?a ?_); (case a => first | decide | omega))
  | ((with_reducible refine' wc_lenS2 ?a ?_); (case a => first | decide | omega)))
local macro_rules | `(tactic| row_cond dE) => `(tactic| first
  | ((with_reducible refine we_bm (T := "str") PySem.F.plainAttrs_str PySem.F.slot_str_index PySem.F.type_str_index ?a ?b ?c ?d ?e ?_); (case a => rfl); (case b => rfl); (case c => rfl); (case d => rfl); (case e => rfl))
  | ((with_reducible refine we_bm (T := "str") PySem.F.plainAttrs_str PySem.F.slot_str_join PySem.F.type_str_join ?a ?b ?c ?d ?e ?_); (case a => rfl); (case b => rfl); (case c => rfl); (case d => rfl); (case e => rfl))
  | ((with_reducible refine we_bm (T := "str") PySem.F.plainAttrs_str PySem.F.slot_str_startswith PySem.F.type_str_startswith ?a ?b ?c ?d ?e ?_); (case a => rfl); (case b => rfl); (case c => rfl); (case d => rfl); (case e => rfl)))
local macro_rules | `(tactic| row_cond dO) => `(tactic| first
  | (with_reducible refine wm_starts ?_))
local macro_rules | `(tactic| row_cond dret) => `(tactic| (with_reducible refine ws_ret ?_))
local macro_rules | `(tactic| row_cond dO) => `(tactic| first
  | ((with_reducible refine' wx_asK ?a ?b ?_); (case a => assumption); (case b => assumption))
  | ((with_reducible refine' wo_inAsK ?a ?_); (case a => assumption))
  | ((with_reducible refine' wo_ninAsK ?a ?_); (case a => assumption))
  | ((with_reducible refine' wset_asK ?a ?b ?_); (case a => assumption); (case b => row_cond dsz))
  | (with_reducible refine getD_asK ?_)
  | ((with_reducible refine' popD_asK ?b ?_); (case b => assumption))
  | ((with_reducible refine' wx_asT ?a ?b ?_); (case a => assumption); (case b => assumption))
  | ((with_reducible refine' wo_inAsT ?a ?_); (case a => assumption))
  | ((with_reducible refine' wo_ninAsT ?a ?_); (case a => assumption))
  | ((with_reducible refine' wset_asT ?a ?b ?_); (case a => assumption); (case b => row_cond dsz))
  | (with_reducible refine getD_asT ?_)
  | ((with_reducible refine' wc_sortedAs ?a ?_); (case a => assumption)))
local macro_rules | `(tactic| row_cond dO) => `(tactic| first
  | (with_reducible refine wc_lenAsK ?_)
  | (with_reducible refine wc_lenAsT ?_))
local macro_rules | `(tactic| row_cond dI) => `(tactic| first
  | (with_reducible refine wiv_asK ?_))

/-! ### names -/
local macro_rules | `(tactic| row_cond dspec) => `(tactic| first
  | ((with_reducible refine' sp_law_next_go ?a ?b ?c ?_); (case a => assumption); (case b => first | decide | omega | (split <;> omega)); (case c => first | decide | omega | (split <;> omega)))
  | (with_reducible refine sp_law_mix_go ?_))
local macro_rules | `(tactic| row_cond dmore) => `(tactic| first
  | (with_reducible refine ⟨_, [], rfl, ?_⟩))

def lowS : Str := "abcdefghijklmnopqrstuvwxyz"
theorem low_len : lowS.length = 26 := by decide +kernel
theorem low_at {i c : Nat} (h : (sg lowS)[i]? = some c) : 97 ≤ c ∧ c ≤ 122 := by
  have k : ∀ c ∈ sg lowS, 97 ≤ c ∧ c ≤ 122 := by decide +kernel
  exact k c (List.mem_of_getElem? h)
theorem low_ix {c : Nat} (h : 97 ≤ c) (h2 : c ≤ 122) : ∃ i : Nat, Builtin.Str.occurrences lowS ⟨#[c]⟩ 0 lowS.length 1 = i :: [] ∧ i < 26 := by
  have k : ∀ j : _root_.Fin 26, Builtin.Str.occurrences lowS ⟨#[97 + j.val]⟩ 0 lowS.length 1 = [j.val] := by decide +kernel
  refine ⟨c - 97, ?_, by omega⟩
  have := k ⟨c - 97, by omega⟩
  rw [show 97 + (⟨c - 97, by omega⟩ : _root_.Fin 26).val = c by show 97 + (c - 97) = c; omega] at this
  exact this
/-- a word: at most n signs, the first a small letter -/
def Wd (n : Nat) (w : Str) : Prop := w.length ≤ n ∧ ∃ c r, sg w = c :: r ∧ 97 ≤ c ∧ c ≤ 122
theorem Wd.one {i c : Nat} (h : (sg lowS)[i]? = some c) : Wd 1 ⟨#[c]⟩ := ⟨Nat.le_refl 1, c, [], rfl, low_at h⟩
theorem Wd.len {n : Nat} {w : Str} (h : Wd n w) : w.length ≤ n := h.1
theorem Wd.more {n : Nat} {w : Str} (h : Wd n w) (c : Nat) : Wd (n + 1) (w ++ ⟨#[c]⟩) := by
  obtain ⟨h1, a, r, h2, h3⟩ := h
  refine ⟨?_, a, r ++ [c], by rw [sg_app, h2]; rfl, h3⟩
  rw [← sg_len, sg_app, List.length_append, sg_len]
  show w.length + 1 ≤ _
  omega
theorem Wd.mono {n m : Nat} {w : Str} (h : Wd n w) (hm : n ≤ m) : Wd m w := ⟨Nat.le_trans h.1 hm, h.2⟩
theorem Wd.cut {n k : Nat} {w : Str} (h : Wd n w) (hk : 0 < k) : Wd k (Txt.slice w none (some (k : Int))) := by
  obtain ⟨h1, a, r, h2, h3⟩ := h
  have e : sg (Txt.slice w none (some (k : Int))) = (a :: r).take k := by rw [sg_slice, h2, cut_to _ (by omega)]; rfl
  refine ⟨by rw [← sg_len, e, List.length_take]; omega, a, r.take (k - 1), ?_, h3⟩
  rw [e]
  obtain ⟨j, rfl⟩ : ∃ j, k = j + 1 := ⟨k - 1, by omega⟩
  rfl
theorem Wd.turn {n : Nat} {w : Str} (h : Wd n w) {i c : Nat} (hc : (sg lowS)[i]? = some c) : Wd n ((⟨#[c]⟩ : Str) ++ Txt.slice w (some 1) none) := by
  obtain ⟨h1, a, r, h2, h3⟩ := h
  have e : sg (Txt.slice w (some 1) none) = r := by rw [sg_slice, h2, cut_from _ (by decide)]; rfl
  refine ⟨?_, c, r, by rw [sg_app, e]; rfl, low_at hc⟩
  rw [← sg_len, sg_app, e]
  have : (sg w).length = w.length := sg_len w
  rw [h2] at this
  simpa [sg] using (by rw [List.length_cons] at this; show r.length + 1 ≤ n; omega : r.length + 1 ≤ n)
def sp_law_names : SpD := fun ds M _ Q => ∃ (p : Addr) (st : D) (n : Int), ds = [.ref p, .int n] ∧ M = [(p, st)] ∧ DrawSt st ∧ 0 ≤ n ∧ n ≤ 60 ∧ ∀ (ws : List Str) (st' : D), (ws.length : Int) = n → (∀ w ∈ ws, Wd 8 w) → DrawSt st' → Q (.lst (ws.map D.str)) [(p, st')]
theorem cal_law_names {P : Program} {w : World} {K : PySem.W.Frag} {mg : Str → Option Value} {base : Heap} (T : Tx mg) (Da : DefAt K mg "_law_names" s_law_names) (c_law_next : Cal P w K mg base 2 "_law_next" sp_law_next) : Cal P w K mg base (3) "_law_names" sp_law_names := by
  refine calD (k := 2) Da sc_law_names (fun f fd Fu => Fu.binds fun _ _ _ _ _ _ us hl => match us, hl with | [_, _], _ => rfl) (by row_cond dlen) (fun X F hX nm ds M R Q hS => ?_)
  have hst := hX.std
  have n_state : NameAt X 0 "state" := nm.name rfl (.inl rfl) (by decide) (by decide)
  have s_state : StoreAt X 0 "state" := nm.store rfl (.inl rfl)
  have n_many : NameAt X 1 "many" := nm.name rfl (.inl rfl) (by decide) (by decide)
  have s_many : StoreAt X 1 "many" := nm.store rfl (.inl rfl)
  have n_letters : NameAt X 2 "letters" := nm.name rfl (.inl rfl) (by decide) (by decide)
  have s_letters : StoreAt X 2 "letters" := nm.store rfl (.inl rfl)
  have n_signs : NameAt X 3 "signs" := nm.name rfl (.inl rfl) (by decide) (by decide)
  have s_signs : StoreAt X 3 "signs" := nm.store rfl (.inl rfl)
  have n_names : NameAt X 4 "names" := nm.name rfl (.inl rfl) (by decide) (by decide)
  have s_names : StoreAt X 4 "names" := nm.store rfl (.inl rfl)
  have n_k : NameAt X 5 "k" := nm.name rfl (.inl rfl) (by decide) (by decide)
  have s_k : StoreAt X 5 "k" := nm.store rfl (.inl rfl)
  have n_word : NameAt X 6 "word" := nm.name rfl (.inl rfl) (by decide) (by decide)
  have s_word : StoreAt X 6 "word" := nm.store rfl (.inl rfl)
  have n_j : NameAt X 7 "j" := nm.name rfl (.inl rfl) (by decide) (by decide)
  have s_j : StoreAt X 7 "j" := nm.store rfl (.inl rfl)
  have b_range : BltAt X "range" (.type "range") := nm.blt hX rfl T.z_range bo_range (by decide) (by decide)
  have g_law_next : Gl X "_law_next" := nm.gl rfl
  have b_int : BltAt X "int" (.type "int") := nm.blt hX rfl T.z_int bo_int (by decide) (by decide)
  have m_range : X.mg "range" = none := by rw [hX.mg]; exact T.z_range
  obtain ⟨p, st, n, rfl, rfl, hs, h0, h1, hq⟩ := hS
  row_cond dstart
  refine wss_cons ?_
  refine ws_mid (fun Γ => Γ = ⟨[some (.ref p), some (.int n), some (.str lowS), none, none, none, none, none], [(p, st)], R⟩) ?_ ?_
  · row_cond go; rfl
  intro Γ e
  subst e
  refine wss_cons ?_
  refine ws_mid (fun Γ => ∃ S : Str, Γ = ⟨[some (.ref p), some (.int n), some (.str lowS), some (.str S), none, none, none, none], [(p, st)], R⟩ ∧ S.length = 36) ?_ ?_
  · row_cond go
    decide +kernel
  rintro Γ ⟨S, rfl, hSl⟩
  row_cond gon
  rename_i q
  have hL := low_len
  refine ws_for hst (fun _ => rfl) ?_
  row_cond go
  refine ⟨fun i Γ => ∃ (st : D) (ws : List Str) (k w j : Option D), Γ = ⟨[some (.ref p), some (.int n), some (.str lowS), some (.str S), some (.ref q), k, w, j], [(q, .lst (ws.map D.str)), (p, st)], R⟩ ∧ DrawSt st ∧ ws.length = i ∧ ∀ w ∈ ws, Wd 8 w, ⟨_, [], _, _, _, rfl, hs, rfl, fun w h => by cases h⟩, fun _ _ _ => trivial, fun i x Γ hx hW => ?_, fun Γ hW => ?_⟩
  · obtain ⟨st, ws, k, w, j, rfl, hs, hi, hws⟩ := hW
    obtain ⟨hin, rfl⟩ := rngD_at hx
    row_cond gon
    rename_i r1 s1 hr1 hr1' hs1 c1 hc1
    -- the word's further signs
    refine ws_mid (fun Γ => ∃ (st : D) (w : Str) (j : Option D), Γ = ⟨[some (.ref p), some (.int n), some (.str lowS), some (.str S), some (.ref q), some (.int (0 + (i : Int))), some (.str w), j], [(q, .lst (ws.map D.str)), (p, st)], R⟩ ∧ DrawSt st ∧ Wd 8 w) ?_ ?_
    · refine ws_for hst (fun _ => rfl) ?_
      row_cond go
      rename_i r2 s2 hr2 hr2' hs2
      refine ⟨fun i' Γ => ∃ (st : D) (w : Str) (j : Option D), Γ = ⟨[some (.ref p), some (.int n), some (.str lowS), some (.str S), some (.ref q), some (.int (0 + (i : Int))), some (.str w), j], [(q, .lst (ws.map D.str)), (p, st)], R⟩ ∧ DrawSt st ∧ Wd (1 + i') w, ⟨_, _, _, rfl, hs2, Wd.one hc1⟩, fun _ _ _ => trivial, fun i' x Γ hx hW => ?_, fun Γ hW => ?_⟩
      · obtain ⟨st, w, j, rfl, hs, hw⟩ := hW
        obtain ⟨hj, rfl⟩ := rngD_at hx
        haveI : SzLe w (1 + i') := ⟨hw.len⟩
        row_cond go
        rename_i r3 s3 hr3 hr3' hs3 c3 hc3
        exact ⟨_, _, _, rfl, hs3, (hw.more c3).mono (by omega)⟩
      · obtain ⟨st, w, j, rfl, hs, hw⟩ := hW
        rw [rngD_len] at hw
        exact ⟨_, _, _, rfl, hs, hw.mono (by omega)⟩
    clear hs1 hs
    rintro Γ ⟨st, w, j, rfl, hs, hw⟩
    refine wss_cons ?_
    refine ws_mid (fun Γ => ∃ (st : D) (w : Str) (j : Option D), Γ = ⟨[some (.ref p), some (.int n), some (.str lowS), some (.str S), some (.ref q), some (.int (0 + (i : Int))), some (.str w), j], [(q, .lst (ws.map D.str)), (p, st)], R⟩ ∧ DrawSt st ∧ Wd 8 w) ?_ ?_
    · row_cond go
      · rename_i y hy
        have hy8 := hws y (List.mem_of_getElem? hy)
        haveI : SzLe y 8 := ⟨hy8.len⟩
        row_cond go
        rename_i r3 s3 hr3 hr3' hs3 c3 hc3
        exact ⟨_, _, _, rfl, hs3, ((hy8.cut (k := 7) (by decide)).more c3).mono (by omega)⟩
      · exact ⟨_, _, _, rfl, by assumption, hw⟩
      · exact ⟨_, _, _, rfl, by assumption, hw⟩
    clear hs hw
    rintro Γ ⟨st, w, j, rfl, hs, hw⟩
    refine wss_cons ?_
    refine ws_mid (fun Γ => ∃ (w : Str) (j : Option D), Γ = ⟨[some (.ref p), some (.int n), some (.str lowS), some (.str S), some (.ref q), some (.int (0 + (i : Int))), some (.str w), j], [(q, .lst (ws.map D.str)), (p, st)], R⟩ ∧ Wd 8 w) ?_ ?_
    · refine ws_for hst (fun _ => rfl) ?_
      row_cond go
      refine ⟨fun i' Γ => ∃ (w : Str) (j : Option D), Γ = ⟨[some (.ref p), some (.int n), some (.str lowS), some (.str S), some (.ref q), some (.int (0 + (i : Int))), some (.str w), j], [(q, .lst (ws.map D.str)), (p, st)], R⟩ ∧ Wd 8 w, ⟨_, _, rfl, hw⟩, fun _ _ _ => trivial, fun i' x Γ hx hW => ?_, fun Γ hW => ?_⟩
      · obtain ⟨w, j, rfl, hw⟩ := hW
        obtain ⟨hj, rfl⟩ := rngD_at hx
        haveI : SzLe w 8 := ⟨hw.len⟩
        have hw1 := hw.len
        obtain ⟨c, r, ec, hc⟩ := hw.2
        have hw0 : 0 < w.length := by
          rw [← sg_len, ec, List.length_cons]; omega
        obtain ⟨ix, hix, hix2⟩ := low_ix hc.1 hc.2
        row_cond go
        · rename_i c' hc'
          have e2 : (sg w)[0]? = some c' := hc'
          rw [ec] at e2
          cases e2
          refine wm_sindex hix ?_
          row_cond go
          rename_i d hd
          exact ⟨_, _, rfl, hw.turn hd⟩
        · exact ⟨_, _, rfl, hw⟩
      · obtain ⟨w, j, rfl, hw⟩ := hW
        exact ⟨_, _, rfl, hw⟩
    clear hw
    rintro Γ ⟨w, j, rfl, hw⟩
    row_cond go
    refine ⟨_, ws ++ [w], _, _, _, rfl, hs, by simp [hi], fun x hx => ?_⟩
    rcases List.mem_append.mp hx with h | h
    · exact hws x h
    · rw [List.mem_singleton.mp h]; exact hw
  · obtain ⟨st, ws, k, w, j, rfl, hs, hi, hws⟩ := hW
    rw [rngD_len] at hi
    refine wss_cons (ws_retV ?_)
    row_cond go
    exact rt1 (hq _ _ (by omega) hws hs)

end K18


namespace K18
open PySem PySem.Spec PyProof.Rows L2 DL
local macro_rules | `(tactic| row_cond dcall) => `(tactic| first
  | ((with_reducible refine' we_callX (x := "chunks") ?c ?x ?j ?g ?d ?e ?p ?_); (case c => assumption); (case x => assumption); (case j => first | decide | exact Nat.le_refl _ | omega); (case g => assumption); (case d => decide); (case e => rfl); (case p => rfl))
  | ((with_reducible refine' we_callK (x := "chunks") ?c ?x ?j ?g ?a ?k ?d ?e ?p ?_); (case c => assumption); (case x => assumption); (case j => first | decide | exact Nat.le_refl _ | omega); (case g => assumption); (case a => rfl); (case k => rfl); (case d => decide); (case e => rfl); (case p => rfl))
  | ((with_reducible refine' we_call (x := "refs") ?c ?x ?j ?g ?d ?e ?p ?_); (case c => assumption); (case x => assumption); (case j => first | decide | exact Nat.le_refl _ | omega); (case g => assumption); (case d => decide); (case e => rfl); (case p => rfl))
  | ((with_reducible refine' we_call (x := "find_entry") ?c ?x ?j ?g ?d ?e ?p ?_); (case c => assumption); (case x => assumption); (case j => first | decide | exact Nat.le_refl _ | omega); (case g => assumption); (case d => decide); (case e => rfl); (case p => rfl))
  | ((with_reducible refine' we_call (x := "with_entry") ?c ?x ?j ?g ?d ?e ?p ?_); (case c => assumption); (case x => assumption); (case j => first | decide | exact Nat.le_refl _ | omega); (case g => assumption); (case d => decide); (case e => rfl); (case p => rfl))
  | ((with_reducible refine' we_call (x := "without_entry") ?c ?x ?j ?g ?d ?e ?p ?_); (case c => assumption); (case x => assumption); (case j => first | decide | exact Nat.le_refl _ | omega); (case g => assumption); (case d => decide); (case e => rfl); (case p => rfl))
  | ((with_reducible refine' we_call (x := "_law_mix") ?c ?x ?j ?g ?d ?e ?p ?_); (case c => assumption); (case x => assumption); (case j => first | decide | exact Nat.le_refl _ | omega); (case g => assumption); (case d => decide); (case e => rfl); (case p => rfl))
  | ((with_reducible refine' we_call (x := "_law_start") ?c ?x ?j ?g ?d ?e ?p ?_); (case c => assumption); (case x => assumption); (case j => first | decide | exact Nat.le_refl _ | omega); (case g => assumption); (case d => decide); (case e => rfl); (case p => rfl))
  | ((with_reducible refine' we_call1 (x := "_law_next") ?c ?x ?j ?g ?d ?e ?p ?_); (case c => assumption); (case x => assumption); (case j => first | decide | exact Nat.le_refl _ | omega); (case g => assumption); (case d => decide); (case e => rfl); (case p => rfl))
  | ((with_reducible refine' we_call (x := "_law_is") ?c ?x ?j ?g ?d ?e ?p ?_); (case c => assumption); (case x => assumption); (case j => first | decide | exact Nat.le_refl _ | omega); (case g => assumption); (case d => decide); (case e => rfl); (case p => rfl))
  | ((with_reducible refine' we_call1 (x := "_law_names") ?c ?x ?j ?g ?d ?e ?p ?_); (case c => assumption); (case x => assumption); (case j => first | decide | exact Nat.le_refl _ | omega); (case g => assumption); (case d => decide); (case e => rfl); (case p => rfl))
  | ((with_reducible refine' we_call1 (x := "_law_text") ?c ?x ?j ?g ?d ?e ?p ?_); (case c => assumption); (case x => assumption); (case j => first | decide | exact Nat.le_refl _ | omega); (case g => assumption); (case d => decide); (case e => rfl); (case p => rfl))
  | ((with_reducible refine' we_call (x := "_law_entries") ?c ?x ?j ?g ?d ?e ?p ?_); (case c => assumption); (case x => assumption); (case j => first | decide | exact Nat.le_refl _ | omega); (case g => assumption); (case d => decide); (case e => rfl); (case p => rfl))
  | ((with_reducible refine' we_call (x := "_law_told_refs") ?c ?x ?j ?g ?d ?e ?p ?_); (case c => assumption); (case x => assumption); (case j => first | decide | exact Nat.le_refl _ | omega); (case g => assumption); (case d => decide); (case e => rfl); (case p => rfl))
  | ((with_reducible refine' we_call (x := "_law_folder") ?c ?x ?j ?g ?d ?e ?p ?_); (case c => assumption); (case x => assumption); (case j => first | decide | exact Nat.le_refl _ | omega); (case g => assumption); (case d => decide); (case e => rfl); (case p => rfl))
  | ((with_reducible refine' we_call1 (x := "_law_file") ?c ?x ?j ?g ?d ?e ?p ?_); (case c => assumption); (case x => assumption); (case j => first | decide | exact Nat.le_refl _ | omega); (case g => assumption); (case d => decide); (case e => rfl); (case p => rfl))
  | ((with_reducible refine' we_call (x := "_law_pieces") ?c ?x ?j ?g ?d ?e ?p ?_); (case c => assumption); (case x => assumption); (case j => first | decide | exact Nat.le_refl _ | omega); (case g => assumption); (case d => decide); (case e => rfl); (case p => rfl))
  | ((with_reducible refine' we_call (x := "law") ?c ?x ?j ?g ?d ?e ?p ?_); (case c => assumption); (case x => assumption); (case j => first | decide | exact Nat.le_refl _ | omega); (case g => assumption); (case d => decide); (case e => rfl); (case p => rfl)))
/-! the steps: one line a construct -/
local macro_rules | `(tactic| row_cond dlen) => `(tactic| (intro ds M R Q h; first | (obtain ⟨h1, _⟩ := h; subst h1; rfl) | (obtain ⟨_, h1, _⟩ := h; subst h1; rfl) | (obtain ⟨_, _, h1, _⟩ := h; subst h1; rfl) | (obtain ⟨_, _, _, h1, _⟩ := h; subst h1; rfl) | (obtain ⟨_, _, _, _, h1, _⟩ := h; subst h1; rfl) | (obtain ⟨_, _, _, _, _, h1, _⟩ := h; subst h1; rfl) | (obtain ⟨_, _, _, _, _, _, h1, _⟩ := h; subst h1; rfl) | (obtain ⟨_, _, _, _, _, _, _, h1, _⟩ := h; subst h1; rfl) | (obtain ⟨_, _, _, _, _, _, _, _, h1, _⟩ := h; subst h1; rfl) | (obtain ⟨_, _, _, _, _, _, _, _, _, h1, _⟩ := h; subst h1; rfl) | (obtain ⟨_, _, _, _, _, _, _, _, _, _, h1, _⟩ := h; subst h1; rfl) | (obtain ⟨_, _, _, _, _, _, _, _, _, _, _, h1, _⟩ := h; subst h1; rfl) | (obtain ⟨_, _, _, _, _, _, _, _, _, _, _, _, h1, _⟩ := h; subst h1; rfl)))
local macro_rules | `(tactic| row_cond dsz) => `(tactic| first | exact Nat.le_of_ble_eq_true rfl | assumption | (simp only [List.length_map, List.length_cons, List.length_append, List.length_nil, List.length_reverse, List.length_take, List.length_drop, PySem.sizeLine]; omega))
/- expressions -/
local macro_rules | `(tactic| row_cond dE) => `(tactic| first
  | ((with_reducible refine' we_name ?n ?e ?_); (case n => assumption); (case e => rfl))
  | (with_reducible refine we_int ?_)
  | (with_reducible refine we_bl ?_)
  | (with_reducible refine we_str ?_)
  | (with_reducible refine we_non ?_)
  | (with_reducible refine we_bin ?_)
  | ((with_reducible refine' we_cmp ?n ?_); (case n => rfl))
  | (with_reducible refine we_slice ?_)
  | (with_reducible refine we_rev ?_)
  | ((with_reducible refine' we_ix ?n ?_); (case n => exact fun _ _ => rfl))
  | (with_reducible refine we_tupV ?_)
  | (with_reducible refine we_lstV ?_)
  | ((with_reducible refine' we_blt ?b ?n ?m ?_); (case b => assumption); (case n => rfl); (case m => rfl))
  | ((with_reducible refine' we_typ ?b ?n ?m ?_); (case b => assumption); (case n => rfl); (case m => rfl))
  | ((with_reducible refine' we_tyName ?b ?_); (case b => assumption))
  | (with_reducible refine we_one ?_)
  | (with_reducible refine we_and ?_)
  | (with_reducible refine we_or ?_)
  | (with_reducible refine we_not ?_)
  | (with_reducible refine we_ifexp ?_)
  | ((with_reducible refine' we_un ?n ?_); (case n => exact fun z => nomatch z))
  | row_cond dcall
  | ((with_reducible refine we_bm (T := "list") PySem.F.plainAttrs_list PySem.F.slot_list_append PySem.F.type_list_append ?a ?b ?c ?d ?e ?_); (case a => rfl); (case b => rfl); (case c => rfl); (case d => rfl); (case e => rfl))
  | ((with_reducible refine we_bm0 (T := "list") PySem.F.plainAttrs_list PySem.F.slot_list_pop PySem.F.type_list_pop ?a ?b ?_); (case a => rfl); (case b => rfl))
  | ((with_reducible refine we_bm (T := "list") PySem.F.plainAttrs_list PySem.F.slot_list_extend PySem.F.type_list_extend ?a ?b ?c ?d ?e ?_); (case a => rfl); (case b => rfl); (case c => rfl); (case d => rfl); (case e => rfl)))
/- tests -/
local macro_rules | `(tactic| row_cond dT) => `(tactic| first
  | ((with_reducible refine' wt_cmp ?n ?_); (case n => rfl))
  | (with_reducible refine wt_not ?_)
  | (with_reducible refine wt_bool ?_)
  | (with_reducible refine ww_and1 ?_)
  | (with_reducible refine ww_or1 ?_)
  | (with_reducible refine ww_and ?_)
  | (with_reducible refine ww_or ?_)
  | ((with_reducible refine' wt_val ?n ?_); (case n => exact fun _ => rfl)))
/- statements -/
local macro_rules | `(tactic| row_cond dS) => `(tactic| first
  | (with_reducible refine wss_cons ?_)
  | (with_reducible refine wss_nil ?_)
  | ((with_reducible refine' ws_set ?a ?n ?h ?_); (case a => assumption); (case n => assumption); (case h => rfl))
  | ((with_reducible refine' ws_sub ?h ?_); (case h => rfl))
  | ((with_reducible refine' ws_asg ?a ?n ?h ?_); (case a => rfl); (case n => rfl); (case h => rfl))
  | (with_reducible refine ws_if ?_)
  | row_cond dret
  | ((with_reducible refine' ws_expr ?h ?_); (case h => rfl))
  | (with_reducible refine ws_pass ?_)
  | (with_reducible refine ws_break ?_)
  | (with_reducible refine ws_continue ?_)
  | (with_reducible refine ws_retN ?_))
local macro_rules | `(tactic| row_cond dSn) => `(tactic| first
  | (with_reducible refine wss_cons ?_)
  | (with_reducible refine wss_nil ?_)
  | ((with_reducible refine' ws_set ?a ?n ?h ?_); (case a => assumption); (case n => assumption); (case h => rfl))
  | ((with_reducible refine' ws_sub ?h ?_); (case h => rfl))
  | ((with_reducible refine' ws_asg ?a ?n ?h ?_); (case a => rfl); (case n => rfl); (case h => rfl))
  | row_cond dret
  | ((with_reducible refine' ws_expr ?h ?_); (case h => rfl))
  | (with_reducible refine ws_pass ?_)
  | (with_reducible refine ws_break ?_)
  | (with_reducible refine ws_continue ?_)
  | (with_reducible refine ws_retN ?_))
/- arguments, targets, values -/
local macro_rules | `(tactic| row_cond dV) => `(tactic| first
  | (with_reducible refine wa_nil ?_)
  | ((with_reducible refine' wa_cons ?n ?_); (case n => rfl))
  | (with_reducible refine wav_nil ?_)
  | ((with_reducible refine' wav_cons ?n ?_); (case n => rfl))
  | (with_reducible refine put_go ?_)
  | (with_reducible refine fz_lst ?_)
  | (with_reducible refine fz_tup ?_)
  | (with_reducible refine fz_id ?_)
  | (with_reducible refine own0_go ?_)
  | (with_reducible refine own1_go ?_)
  | (with_reducible refine app_go ?_)
  | (with_reducible refine mset_go ?_)
  | ((with_reducible refine' wg_name ?a ?n ?_); (case a => assumption); (case n => assumption))
  | ((with_reducible refine' wg_tup ?a ?n ?h ?_); (case a => assumption); (case n => rfl); (case h => rfl))
  | (with_reducible refine wgs_nil ?_)
  | ((with_reducible refine' wgs_cons ?n ?_); (case n => rfl))
  | (with_reducible refine wpt_none ?_)
  | (with_reducible refine wpt_some ?_)
  | ((with_reducible refine' wset_list ?n ?_); (case n => first | rfl | row_cond dix)))
/- what is walked -/
local macro_rules | `(tactic| row_cond dI) => `(tactic| first
  | ((with_reducible refine' wi_range1 ?a ?b ?c ?_); (case a => exact BltAt.gl (by assumption)); (case b => exact BltAt.mg (by assumption)); (case c => rfl))
  | ((with_reducible refine' wi_range2 ?a ?b ?c ?d ?_); (case a => exact BltAt.gl (by assumption)); (case b => exact BltAt.mg (by assumption)); (case c => rfl); (case d => rfl))
  | (with_reducible refine wi_val ?_)
  | (with_reducible refine wiv_list ?_)
  | (with_reducible refine wiv_tup ?_)
  | ((with_reducible refine' wgc_name ?a ?n ?h ?_); (case a => assumption); (case n => assumption); (case h => decide))
  | ((with_reducible refine' wgc_tup ?a ?n ?h ?_); (case a => assumption); (case n => rfl); (case h => rfl))
  | (with_reducible refine wgcs_nil ?_)
  | ((with_reducible refine' wgcs_cons ?n ?_); (case n => rfl))
  | (with_reducible refine wts_nil ?_)
  | (with_reducible refine wts_one ?_))
/- operations by values -/
local macro_rules | `(tactic| row_cond dO) => `(tactic| first
  | (with_reducible refine wo_add ?_)
  | (with_reducible refine wo_sub ?_)
  | ((with_reducible refine' wo_mulS ?n ?_); (case n => first | exact .inr ⟨by decide, by decide⟩ | exact .inl ⟨by decide, by decide⟩ | exact .inr ⟨by omega, by omega⟩ | exact .inl ⟨by omega, by omega⟩))
  | ((with_reducible refine' wo_fdiv ?n ?m ?_); (case n => first | decide | omega); (case m => first | decide | row_cond dlog))
  | ((with_reducible refine' wo_mod ?n ?_); (case n => first | decide | omega))
  | (with_reducible refine wo_powL ?_)
  | ((with_reducible refine' wo_pow ?n ?_); (case n => exact ⟨by decide, by decide, by decide⟩))
  | (with_reducible refine wo_xor ?_)
  | (with_reducible refine wo_lt ?_)
  | (with_reducible refine wo_le ?_)
  | (with_reducible refine wo_gt ?_)
  | (with_reducible refine wo_ge ?_)
  | (with_reducible refine wo_eqI ?_)
  | (with_reducible refine wo_neI ?_)
  | (with_reducible refine wo_eqS ?_)
  | (with_reducible refine wo_neS ?_)
  | (with_reducible refine wo_isN ?_)
  | (with_reducible refine wo_isnotN ?_)
  | (with_reducible refine wu_neg ?_)
  | (with_reducible refine wc_int ?_)
  | (with_reducible refine wc_intB ?_)
  | (with_reducible refine wc_abs ?_)
  | ((with_reducible refine' wc_max2 ?a ?_); (case a => assumption))
  | ((with_reducible refine' wc_min2 ?a ?_); (case a => assumption))
  | (with_reducible refine wc_list ?_)
  | (with_reducible refine wc_tuple ?_)
  | ((with_reducible refine' wc_lenS ?a ?_); (case a => row_cond dsz))
  | (with_reducible refine wc_lenM ?_)
  | (with_reducible refine wc_len ?_)
  | (with_reducible refine wc_isK ?_)
  | ((with_reducible refine' wc_allM ?a ?_); (case a => assumption))
  | ((with_reducible refine' wc_anyM ?a ?_); (case a => assumption))
  | ((with_reducible refine' wc_sum ?a ?_); (case a => assumption))
  | ((with_reducible refine' wx_list ?n ?_); (case n => row_cond dat))
  | ((with_reducible refine' wx_map ?a ?b ?_); (case a => omega); (case b => omega))
  | ((with_reducible refine' wx_seq ?a ?b ?_); (case a => omega); (case b => omega))
  | ((with_reducible refine' wx_tup ?n ?_); (case n => row_cond dat))
  | (with_reducible refine wsl_listM ?_)
  | (with_reducible refine wsl_list ?_)
  | (with_reducible refine wrev_goM ?_)
  | (with_reducible refine wrev_go ?_)
  | ((with_reducible refine' wo_catM ?n ?_); (case n => row_cond dsz))
  | ((with_reducible refine' wo_cat ?n ?_); (case n => row_cond dsz))
  | ((with_reducible refine' wm_append ?n ?_); (case n => row_cond dsz)))
local macro_rules | `(tactic| row_cond dat) => `(tactic| rfl)
local macro_rules | `(tactic| row_cond dix) => `(tactic| rfl)
local macro_rules | `(tactic| row_cond dlog) => `(tactic| first | decide | exact log_small (by omega) (by omega))
/- what stands between -/
local macro_rules | `(tactic| row_cond dQ) => `(tactic| first
  | (with_reducible refine ⟨_, rfl, ?_⟩)
  | (with_reducible refine br_true ?_)
  | (with_reducible refine br_false ?_)
  | (with_reducible refine rb_true ?_)
  | (with_reducible refine rb_false ?_)
  | ((with_reducible refine' br_dec ?_ ?_) <;> intro _)
  | ((with_reducible refine' br_ndec ?_ ?_) <;> intro _)
  | ((with_reducible refine' rb_dec ?_ ?_) <;> intro _)
  | ((with_reducible refine' rb_ndec ?_ ?_) <;> intro _)
  | (refine br_is rfl ?_)
  | (refine br_isnot rfl ?_)
  | (refine rb_is rfl ?_)
  | (refine rb_isnot rfl ?_)
  | ((with_reducible refine' ⟨⟨?a, ?b⟩, ?_⟩); (case a => omega); (case b => omega))
  | ((with_reducible refine' ⟨⟨?a, ?b, ?c, ?d⟩, ?_⟩); (case a => omega); (case b => omega); (case c => omega); (case d => omega))
  | (with_reducible refine app_go ?_)
  | (with_reducible refine ⟨tym_list, ?_⟩)
  | (with_reducible refine ⟨tym_str, ?_⟩)
  | ((with_reducible refine ⟨?n, ?_⟩); (case n => (show _ ≤ PySem.sizeLine); row_cond dsz))
  | (with_reducible intro _))
local macro_rules | `(tactic| row_cond dstart) => `(tactic| simp only [startD, List.map_cons, List.map_nil, List.length_cons, List.length_nil, List.cons_append, List.nil_append, Nat.zero_add, Nat.reduceAdd, Nat.reduceSub, List.replicate_succ, List.replicate_zero])
local macro_rules | `(tactic| row_cond d) => `(tactic| first | row_cond dE | row_cond dV | row_cond dO | row_cond dT | row_cond dS | row_cond dI | row_cond dmore | row_cond dspec | row_cond dQ)
local macro_rules | `(tactic| row_cond dn) => `(tactic| first | row_cond dE | row_cond dV | row_cond dO | row_cond dT | row_cond dSn | row_cond dI | row_cond dmore | row_cond dspec | row_cond dQ)
local macro_rules | `(tactic| row_cond gon) => `(tactic| repeat' (row_cond dn))
local macro_rules | `(tactic| row_cond go) => `(tactic| repeat' (row_cond d))
/- the later parts of the layer -/
local macro_rules | `(tactic| row_cond dE) => `(tactic| first
  | ((with_reducible refine' we_sortedSet ?a ?b ?c ?d ?e ?_); (case a => assumption); (case b => assumption); (case c => assumption); (case d => rfl); (case e => rfl))
  | ((with_reducible refine' we_get2 ?a ?b ?_); (case a => assumption); (case b => exact ⟨rfl, rfl, rfl, rfl⟩))
  | ((with_reducible refine' we_get1 ?a ?b ?_); (case a => assumption); (case b => exact ⟨rfl, rfl, rfl, rfl⟩))
  | ((with_reducible refine' we_pop1 ?b ?_); (case b => exact ⟨rfl, rfl, rfl, rfl⟩)))
local macro_rules | `(tactic| row_cond dO) => `(tactic| first
  | ((with_reducible refine' wc_sorted ?a ?b ?c ?_); (case a => assumption); (case b => decide); (case c => first | exact fun _ _ => trivial | assumption))
  | ((with_reducible refine' wsorted_go ?a ?_); (case a => first | assumption | omega))
  | ((with_reducible refine' wo_inD ?a ?b ?_); (case a => assumption); (case b => decide))
  | ((with_reducible refine' wo_ninD ?a ?b ?_); (case a => assumption); (case b => decide))
  | (with_reducible refine getD_K ?_)
  | (with_reducible refine getD_T ?_)
  | ((with_reducible refine' wsl_txt ?a ?_); (case a => row_cond dsz))
  | ((with_reducible refine' wx_strN ?a ?b ?c ?_); (case a => row_cond dsz); (case b => omega); (case c => first | omega | (simp only [PySem.Str.length]; omega)))
  | (with_reducible refine ⟨isDD_K, ?_⟩)
  | (with_reducible refine ⟨isDD_T, ?_⟩))
local macro_rules | `(tactic| row_cond dO) => `(tactic| first
  | ((with_reducible refine' wm_appendM ?n ?_); (case n => row_cond dsz)))
local macro_rules | `(tactic| row_cond dE) => `(tactic| ((with_reducible refine' we_con ?c ?_); (case c => assumption)))
local macro_rules | `(tactic| row_cond dV) => `(tactic| first
  | (with_reducible refine wk_nil ?_)
  | (with_reducible refine wk_cons ?_)
  | (with_reducible refine ⟨rfl, rfl, ?_⟩))
local macro_rules | `(tactic| row_cond dI) => `(tactic| ((with_reducible refine' wi_range3 ?a ?b ?c ?d ?_); (case a => exact BltAt.gl (by assumption)); (case b => exact BltAt.mg (by assumption)); (case c => rfl); (case d => rfl)))
local macro_rules | `(tactic| row_cond dO) => `(tactic| first
  | ((with_reducible refine' wc_lenS ?a ?_); (case a => row_cond dsz)))
local macro_rules | `(tactic| row_cond dO) => `(tactic| first
  | ((with_reducible refine' wo_addS ?a ?_); (case a => row_cond dsz)))
local macro_rules | `(tactic| row_cond dO) => `(tactic| first
  | ((with_reducible refine' wo_addS2 ?a ?_); (case a => first | decide | omega))
  | ((with_reducible refine' wsl_txt2 ?a ?_); (case a => first | decide | omega))
  | ((with_reducible refine' wc_lenS2 ?a ?_); (case a => first | decide | omega)))
local macro_rules | `(tactic| row_cond dE) => `(tactic| first
  | ((with_reducible refine we_bm (T := "str") PySem.F.plainAttrs_str PySem.F.slot_str_index PySem.F.type_str_index ?a ?b ?c ?d ?e ?_); (case a => rfl); (case b => rfl); (case c => rfl); (case d => rfl); (case e => rfl))
  | ((with_reducible refine we_bm (T := "str") PySem.F.plainAttrs_str PySem.F.slot_str_join PySem.F.type_str_join ?a ?b ?c ?d ?e ?_); (case a => rfl); (case b => rfl); (case c => rfl); (case d => rfl); (case e => rfl))
  | ((with_reducible refine we_bm (T := "str") PySem.F.plainAttrs_str PySem.F.slot_str_startswith PySem.F.type_str_startswith ?a ?b ?c ?d ?e ?_); (case a => rfl); (case b => rfl); (case c => rfl); (case d => rfl); (case e => rfl)))
local macro_rules | `(tactic| row_cond dO) => `(tactic| first
  | (with_reducible refine wm_starts ?_))
local macro_rules | `(tactic| row_cond dret) => `(tactic| (with_reducible refine ws_ret ?_))
local macro_rules | `(tactic| row_cond dO) => `(tactic| first
  | ((with_reducible refine' wx_asK ?a ?b ?_); (case a => assumption); (case b => assumption))
  | ((with_reducible refine' wo_inAsK ?a ?_); (case a => assumption))
  | ((with_reducible refine' wo_ninAsK ?a ?_); (case a => assumption))
  | ((with_reducible refine' wset_asK ?a ?b ?_); (case a => assumption); (case b => row_cond dsz))
  | (with_reducible refine getD_asK ?_)
  | ((with_reducible refine' popD_asK ?b ?_); (case b => assumption))
  | ((with_reducible refine' wx_asT ?a ?b ?_); (case a => assumption); (case b => assumption))
  | ((with_reducible refine' wo_inAsT ?a ?_); (case a => assumption))
  | ((with_reducible refine' wo_ninAsT ?a ?_); (case a => assumption))
  | ((with_reducible refine' wset_asT ?a ?b ?_); (case a => assumption); (case b => row_cond dsz))
  | (with_reducible refine getD_asT ?_)
  | ((with_reducible refine' wc_sortedAs ?a ?_); (case a => assumption)))
local macro_rules | `(tactic| row_cond dO) => `(tactic| first
  | (with_reducible refine wc_lenAsK ?_)
  | (with_reducible refine wc_lenAsT ?_))
local macro_rules | `(tactic| row_cond dI) => `(tactic| first
  | (with_reducible refine wiv_asK ?_))

/-! ### _law_is, by encodings -/
theorem sp_law_is_self {n : Nat} {d : D} {R : Mem} {Q : D → Mem → Prop} (h : Isd n d) (q : Q (.bl true) []) : sp_law_is n [d, d] [] R Q := ⟨d, d, d, rfl, rfl, .self _, .self _, h, q⟩
theorem sp_law_is_lst {n : Nat} {d1 d2 : D} {ds : List D} {R : Mem} {Q : D → Mem → Prop} [h1 : SeeL [] R d1 ds] [h2 : SeeL [] R d2 ds] (h : Isd n (.lst ds)) (q : Q (.bl true) []) : sp_law_is n [d1, d2] [] R Q := ⟨d1, d2, _, rfl, rfl, .lst h1, .lst h2, h, q⟩
/-- data that are equal, shown beside -/
theorem sp_law_is_eq {n : Nat} {d e : D} {R : Mem} {Q : D → Mem → Prop} (he : d = e) (h : Isd n d) (q : Q (.bl true) []) : sp_law_is n [d, e] [] R Q := by
  subst he; exact sp_law_is_self h q
theorem sp_law_is_leq {n : Nat} {d1 d2 : D} {ds es : List D} {R : Mem} {Q : D → Mem → Prop} [h1 : SeeL [] R d1 ds] [h2 : SeeL [] R d2 es] (he : ds = es) (h : Isd n (.lst ds)) (q : Q (.bl true) []) : sp_law_is n [d1, d2] [] R Q := by
  subst he; exact sp_law_is_lst h q
class IsdC {α : Type} (f : α → D) (n : outParam Nat) : Prop where
  h : ∀ (m : Nat) (a : α), n ≤ m → Isd m (f a)
theorem isd_int (m : Nat) (i : Int) : Isd m (.int i) := by cases m <;> trivial
theorem isd_str (m : Nat) (i : Str) : Isd m (.str i) := by cases m <;> trivial
theorem isd_non (m : Nat) : Isd m .non := by cases m <;> trivial
instance IsdC.int : IsdC D.int 0 := ⟨fun m a _ => isd_int m a⟩
instance IsdC.str : IsdC D.str 0 := ⟨fun m a _ => isd_str m a⟩
theorem isd_mapL {α : Type} {f : α → D} {n m : Nat} [c : IsdC f n] {xs : List α} (hl : xs.length ≤ 16777216) (hm : n + 1 ≤ m) : Isd m (.lst (xs.map f)) := by
  obtain ⟨k, rfl⟩ : ∃ k, m = k + 1 := ⟨m - 1, by omega⟩
  refine ⟨by rw [List.length_map]; exact hl, fun d hd => ?_⟩
  obtain ⟨a, _, rfl⟩ := List.mem_map.mp hd
  exact c.h k a (by omega)
theorem isd_mapT {α : Type} {f : α → D} {n m : Nat} [c : IsdC f n] {xs : List α} (hl : xs.length ≤ 16777216) (hm : n + 1 ≤ m) : Isd m (.tup (xs.map f)) := by
  obtain ⟨k, rfl⟩ : ∃ k, m = k + 1 := ⟨m - 1, by omega⟩
  refine ⟨by rw [List.length_map]; exact hl, fun d hd => ?_⟩
  obtain ⟨a, _, rfl⟩ := List.mem_map.mp hd
  exact c.h k a (by omega)
theorem isd_two {m : Nat} {a b : D} (ha : Isd m a) (hb : Isd m b) : Isd (m + 1) (.tup [a, b]) := ⟨Nat.le_of_ble_eq_true rfl, fun d hd => by
  rcases List.mem_cons.mp hd with rfl | hd
  · exact ha
  · rw [List.mem_singleton.mp hd]; exact hb⟩
local macro_rules | `(tactic| row_cond disd) => `(tactic| first | assumption | exact isd_int _ _ | exact isd_str _ _ | exact isd_non _ | exact isd_mapL (by first | omega | assumption) (by decide) | exact isd_mapT (by first | omega | assumption) (by decide))

local macro_rules | `(tactic| row_cond disd) => `(tactic| first | assumption | exact isd_int _ _ | exact isd_str _ _ | exact isd_non _ | exact isd_mapL (by first | omega | assumption) (by decide) | exact isd_mapT (by first | omega | assumption) (by decide))
local macro_rules | `(tactic| row_cond dspec) => `(tactic| first
  | ((with_reducible refine' sp_law_next_go ?a ?b ?c ?_); (case a => assumption); (case b => first | decide | omega | (split <;> omega)); (case c => first | decide | omega | (split <;> omega)))
  | (with_reducible refine sp_law_mix_go ?_)
  | ((with_reducible refine' sp_law_is_self ?a ?_); (case a => row_cond disd))
  | ((with_reducible refine' sp_law_is_lst ?a ?_); (case a => row_cond disd)))
local macro_rules | `(tactic| row_cond dmore) => `(tactic| first
  | (with_reducible refine ⟨_, [], rfl, ?_⟩))

/-! ### texts -/
def sp_law_text : SpD := fun ds M _ Q => ∃ (p : Addr) (st : D) (n : Int), ds = [.ref p, .int n] ∧ M = [(p, st)] ∧ DrawSt st ∧ 0 ≤ n ∧ n ≤ 60 ∧ ∀ (z : Str) (st' : D), z.length ≤ n.toNat → DrawSt st' → Q (.str z) [(p, st')]
theorem cal_law_text {P : Program} {w : World} {K : PySem.W.Frag} {mg : Str → Option Value} {base : Heap} (T : Tx mg) (Da : DefAt K mg "_law_text" s_law_text) (c_law_next : Cal P w K mg base 2 "_law_next" sp_law_next) : Cal P w K mg base (3) "_law_text" sp_law_text := by
  refine calD (k := 2) Da sc_law_text (fun f fd Fu => Fu.binds fun _ _ _ _ _ _ us hl => match us, hl with | [_, _], _ => rfl) (by row_cond dlen) (fun X F hX nm ds M R Q hS => ?_)
  have hst := hX.std
  have n_state : NameAt X 0 "state" := nm.name rfl (.inr rfl) (by decide) (by decide)
  have s_state : StoreAt X 0 "state" := nm.store rfl (.inr rfl)
  have n_most : NameAt X 1 "most" := nm.name rfl (.inl rfl) (by decide) (by decide)
  have s_most : StoreAt X 1 "most" := nm.store rfl (.inl rfl)
  have n_signs : NameAt X 2 "signs" := nm.name rfl (.inr rfl) (by decide) (by decide)
  have s_signs : StoreAt X 2 "signs" := nm.store rfl (.inr rfl)
  have b_range : BltAt X "range" (.type "range") := nm.blt hX rfl T.z_range bo_range (by decide) (by decide)
  have m_range : X.mg "range" = none := by rw [hX.mg]; exact T.z_range
  obtain ⟨p, st, n, rfl, rfl, hs, h0, h1, hq⟩ := hS
  row_cond dstart
  refine wss_cons ?_
  refine ws_mid (fun Γ => ∃ S : Str, Γ = ⟨[some (.ref p), some (.int n), some (.str S), none], [(p, st)], R⟩ ∧ S.length = 64) ?_ ?_
  · row_cond go
    decide +kernel
  rintro Γ ⟨S, rfl, hS⟩
  refine wss_cons ?_
  refine ws_mid (fun Γ => ∃ S : Str, Γ = ⟨[some (.ref p), some (.int n), some (.str S), none], [(p, st)], R⟩ ∧ S.length = 94) ?_ ?_
  · haveI : SzLe S 64 := ⟨Nat.le_of_eq hS⟩
    haveI : SzLe "abcdefghijklmnopqrstuvwxyz{|}~" 30 := ⟨by decide +kernel⟩
    row_cond go
    rw [← sg_len, sg_app, List.length_append, sg_len, hS]
    decide +kernel
  clear hS
  rintro Γ ⟨S, rfl, hS⟩
  row_cond go
  refine we_lc' hst (own := [("k", 3)]) (nm.blk (by decide +kernel)) (fun _ => rfl) rfl ?_
  row_cond go
  refine lc_name hX (by rw [nm.N]; rfl) (.inl rfl) (fun i acc M' => ∃ (ys : List Str) (st : D), acc = ys.map D.str ∧ M' = [(p, st)] ∧ DrawSt st ∧ ys.length = i ∧ ∀ y ∈ ys, y.length = 1) ⟨[], _, rfl, rfl, hs, rfl, fun _ h => by cases h⟩ (fun _ _ _ _ _ => trivial) (fun a i x acc M' hx hW => ?_) (fun a acc M' hW => ?_)
  · obtain ⟨ys, st, rfl, rfl, hs, hi, hy⟩ := hW
    obtain ⟨hin, rfl⟩ := rngD_at hx
    refine put_go (fun X' hb => ?_)
    have hX_X' := hb.inn hX
    have hst_X' := hX_X'.std
    have n_k_X' : NameAt X' 3 "k" := hb.name (by rw [nm.N]; rfl) (by first | exact .inl rfl | exact .inr (.inl rfl) | exact .inr (.inr rfl)) (by decide) (by decide)
    have s_k_X' : StoreAt X' 3 "k" := hb.store (by rw [nm.N]; rfl) (by first | exact .inl rfl | exact .inr rfl)
    have n_signs_X' : NameAt X' 2 "signs" := hb.name (by rw [nm.N]; rfl) (by first | exact .inl rfl | exact .inr (.inl rfl) | exact .inr (.inr rfl)) (by decide) (by decide)
    have g_law_next_X' : Gl X' "_law_next" := hb.gl rfl
    have n_state_X' : NameAt X' 0 "state" := hb.name (by rw [nm.N]; rfl) (by first | exact .inl rfl | exact .inr (.inl rfl) | exact .inr (.inr rfl)) (by decide) (by decide)
    row_cond go
    rename_i r s1 _ _ hs1 c hc
    refine lcend_id (by rw [List.length_map, hi]; show _ < 16777216; omega) ⟨ys ++ [⟨#[c]⟩], _, by rw [List.map_append]; rfl, rfl, hs1, by simp [hi], fun y h => ?_⟩
    rcases List.mem_append.mp h with h | h
    · exact hy y h
    · rw [List.mem_singleton.mp h]; rfl
  · obtain ⟨ys, st, rfl, rfl, hs, hi, hy⟩ := hW
    rw [rngD_len] at hi
    have hsum : ∀ l : List Str, (∀ y ∈ l, y.length = 1) → (l.map (·.length)).sum = l.length := by
      intro l
      induction l with
      | nil => exact fun _ => rfl
      | cons a l ih => intro h; rw [List.map_cons, List.sum_cons, h a List.mem_cons_self, ih fun y z => h y (List.mem_cons_of_mem _ z), List.length_cons]; omega
    have e1 := hsum ys hy
    have e0 : ("" : Str).length = 0 := by decide +kernel
    row_cond go
    refine wm_join (ys := ys) (by rw [e1, e0]; omega) ?_
    row_cond go
    refine rt1 (hq _ _ ?_ hs)
    have e2 := PySem.StrLaws.join_length_le "" ys
    have e3 : Txt.join "" ys = PySem.Str.join "" ys := PySem.StrLaws.glued_eq_join "" ys
    rw [e3]
    rw [e1, e0] at e2
    omega
def sp_law_told_refs : SpD := fun ds M _ Q => ∃ (k : Str) (s b : D), ds = [.tup [.str k, s, b]] ∧ M = [] ∧ ((k = "data" ∧ Q (.lst []) []) ∨ (k ≠ "data" ∧ ∃ rs xs, b = .tup rs ∧ RowsAt rs xs ∧ xs.length ≤ 4000 ∧ Q (.lst ((srt ltI (onceL xs)).map D.int)) []))
theorem sp_refs_go {k : Str} {s b : D} {ys : List Int} {R : Mem} {Q : D → Mem → Prop} (h : (k = "data" ∧ ys = []) ∨ (k ≠ "data" ∧ ∃ rs xs, b = .tup rs ∧ RowsAt rs xs ∧ xs.length ≤ 4000 ∧ ys = srt ltI (onceL xs))) (q : ∀ p, Q (.ref p) [(p, .lst (ys.map D.int))]) : sp_refs [.tup [.str k, s, b]] [] R Q := by
  refine ⟨k, s, b, rfl, rfl, ?_⟩
  rcases h with ⟨a, rfl⟩ | ⟨a, rs, xs, b1, b2, b3, rfl⟩
  · exact .inl ⟨a, q⟩
  · exact .inr ⟨a, rs, xs, b1, b2, b3, q⟩
local macro_rules | `(tactic| row_cond dspec) => `(tactic| ((with_reducible refine' sp_refs_go ?a ?_); (case a => assumption)))
local macro_rules | `(tactic| row_cond dret) => `(tactic| (with_reducible refine ws_retV ?_))
theorem cal_law_told_refs {P : Program} {w : World} {K : PySem.W.Frag} {mg : Str → Option Value} {base : Heap} (T : Tx mg) (Da : DefAt K mg "_law_told_refs" s_law_told_refs) (c_refs : Cal P w K mg base 1 "refs" sp_refs) (c_law_is : Cal P w K mg base 4 "_law_is" (sp_law_is 3)) : Cal P w K mg base (5) "_law_told_refs" sp_law_told_refs := by
  refine calD (k := 4) Da sc_law_told_refs (fun f fd Fu => Fu.binds fun _ _ _ _ _ _ us hl => match us, hl with | [_], _ => rfl) (by row_cond dlen) (fun X F hX nm ds M R Q hS => ?_)
  have hst := hX.std
  have n_record : NameAt X 0 "record" := nm.name rfl (.inl rfl) (by decide) (by decide)
  have s_record : StoreAt X 0 "record" := nm.store rfl (.inl rfl)
  have n_first : NameAt X 1 "first" := nm.name rfl (.inl rfl) (by decide) (by decide)
  have s_first : StoreAt X 1 "first" := nm.store rfl (.inl rfl)
  have n_kept : NameAt X 2 "kept" := nm.name rfl (.inl rfl) (by decide) (by decide)
  have s_kept : StoreAt X 2 "kept" := nm.store rfl (.inl rfl)
  have g_refs : Gl X "refs" := nm.gl rfl
  have b_list : BltAt X "list" (.type "list") := nm.blt hX rfl T.z_list bo_list (by decide) (by decide)
  have b_isinstance : BltAt X "isinstance" (.builtin "isinstance") := nm.blt hX rfl T.z_isinstance bo_isinstance (by decide) (by decide)
  have g_law_is : Gl X "_law_is" := nm.gl rfl
  obtain ⟨k, s, b, rfl, rfl, hq⟩ := hS
  obtain ⟨ys, hy, hyl, hq⟩ : ∃ ys : List Int, ((k = "data" ∧ ys = []) ∨ (k ≠ "data" ∧ ∃ rs xs, b = .tup rs ∧ RowsAt rs xs ∧ xs.length ≤ 4000 ∧ ys = srt ltI (onceL xs))) ∧ ys.length ≤ 4000 ∧ Q (.lst (ys.map D.int)) [] := by
    rcases hq with ⟨a, q⟩ | ⟨a, rs, xs, b1, b2, b3, q⟩
    · exact ⟨[], .inl ⟨a, rfl⟩, by simp, q⟩
    · exact ⟨_, .inr ⟨a, rs, xs, b1, b2, b3, rfl⟩, by rw [srt_len]; exact Nat.le_trans (onceL_len xs) b3, q⟩
  row_cond dstart
  refine wss_cons ?_
  row_cond go
  exact rt0 hq

end K18


namespace K18
open PySem PySem.Spec PyProof.Rows L2 DL
local macro_rules | `(tactic| row_cond dcall) => `(tactic| first
  | ((with_reducible refine' we_callX (x := "chunks") ?c ?x ?j ?g ?d ?e ?p ?_); (case c => assumption); (case x => assumption); (case j => first | decide | exact Nat.le_refl _ | omega); (case g => assumption); (case d => decide); (case e => rfl); (case p => rfl))
  | ((with_reducible refine' we_callK (x := "chunks") ?c ?x ?j ?g ?a ?k ?d ?e ?p ?_); (case c => assumption); (case x => assumption); (case j => first | decide | exact Nat.le_refl _ | omega); (case g => assumption); (case a => rfl); (case k => rfl); (case d => decide); (case e => rfl); (case p => rfl))
  | ((with_reducible refine' we_call (x := "refs") ?c ?x ?j ?g ?d ?e ?p ?_); (case c => assumption); (case x => assumption); (case j => first | decide | exact Nat.le_refl _ | omega); (case g => assumption); (case d => decide); (case e => rfl); (case p => rfl))
  | ((with_reducible refine' we_call (x := "find_entry") ?c ?x ?j ?g ?d ?e ?p ?_); (case c => assumption); (case x => assumption); (case j => first | decide | exact Nat.le_refl _ | omega); (case g => assumption); (case d => decide); (case e => rfl); (case p => rfl))
  | ((with_reducible refine' we_call (x := "with_entry") ?c ?x ?j ?g ?d ?e ?p ?_); (case c => assumption); (case x => assumption); (case j => first | decide | exact Nat.le_refl _ | omega); (case g => assumption); (case d => decide); (case e => rfl); (case p => rfl))
  | ((with_reducible refine' we_call (x := "without_entry") ?c ?x ?j ?g ?d ?e ?p ?_); (case c => assumption); (case x => assumption); (case j => first | decide | exact Nat.le_refl _ | omega); (case g => assumption); (case d => decide); (case e => rfl); (case p => rfl))
  | ((with_reducible refine' we_call (x := "_law_mix") ?c ?x ?j ?g ?d ?e ?p ?_); (case c => assumption); (case x => assumption); (case j => first | decide | exact Nat.le_refl _ | omega); (case g => assumption); (case d => decide); (case e => rfl); (case p => rfl))
  | ((with_reducible refine' we_call (x := "_law_start") ?c ?x ?j ?g ?d ?e ?p ?_); (case c => assumption); (case x => assumption); (case j => first | decide | exact Nat.le_refl _ | omega); (case g => assumption); (case d => decide); (case e => rfl); (case p => rfl))
  | ((with_reducible refine' we_call1 (x := "_law_next") ?c ?x ?j ?g ?d ?e ?p ?_); (case c => assumption); (case x => assumption); (case j => first | decide | exact Nat.le_refl _ | omega); (case g => assumption); (case d => decide); (case e => rfl); (case p => rfl))
  | ((with_reducible refine' we_call (x := "_law_is") ?c ?x ?j ?g ?d ?e ?p ?_); (case c => assumption); (case x => assumption); (case j => first | decide | exact Nat.le_refl _ | omega); (case g => assumption); (case d => decide); (case e => rfl); (case p => rfl))
  | ((with_reducible refine' we_call1 (x := "_law_names") ?c ?x ?j ?g ?d ?e ?p ?_); (case c => assumption); (case x => assumption); (case j => first | decide | exact Nat.le_refl _ | omega); (case g => assumption); (case d => decide); (case e => rfl); (case p => rfl))
  | ((with_reducible refine' we_call1 (x := "_law_text") ?c ?x ?j ?g ?d ?e ?p ?_); (case c => assumption); (case x => assumption); (case j => first | decide | exact Nat.le_refl _ | omega); (case g => assumption); (case d => decide); (case e => rfl); (case p => rfl))
  | ((with_reducible refine' we_call (x := "_law_entries") ?c ?x ?j ?g ?d ?e ?p ?_); (case c => assumption); (case x => assumption); (case j => first | decide | exact Nat.le_refl _ | omega); (case g => assumption); (case d => decide); (case e => rfl); (case p => rfl))
  | ((with_reducible refine' we_call (x := "_law_told_refs") ?c ?x ?j ?g ?d ?e ?p ?_); (case c => assumption); (case x => assumption); (case j => first | decide | exact Nat.le_refl _ | omega); (case g => assumption); (case d => decide); (case e => rfl); (case p => rfl))
  | ((with_reducible refine' we_call (x := "_law_folder") ?c ?x ?j ?g ?d ?e ?p ?_); (case c => assumption); (case x => assumption); (case j => first | decide | exact Nat.le_refl _ | omega); (case g => assumption); (case d => decide); (case e => rfl); (case p => rfl))
  | ((with_reducible refine' we_call1 (x := "_law_file") ?c ?x ?j ?g ?d ?e ?p ?_); (case c => assumption); (case x => assumption); (case j => first | decide | exact Nat.le_refl _ | omega); (case g => assumption); (case d => decide); (case e => rfl); (case p => rfl))
  | ((with_reducible refine' we_call (x := "_law_pieces") ?c ?x ?j ?g ?d ?e ?p ?_); (case c => assumption); (case x => assumption); (case j => first | decide | exact Nat.le_refl _ | omega); (case g => assumption); (case d => decide); (case e => rfl); (case p => rfl))
  | ((with_reducible refine' we_call (x := "law") ?c ?x ?j ?g ?d ?e ?p ?_); (case c => assumption); (case x => assumption); (case j => first | decide | exact Nat.le_refl _ | omega); (case g => assumption); (case d => decide); (case e => rfl); (case p => rfl)))
/-! the steps: one line a construct -/
local macro_rules | `(tactic| row_cond dlen) => `(tactic| (intro ds M R Q h; first | (obtain ⟨h1, _⟩ := h; subst h1; rfl) | (obtain ⟨_, h1, _⟩ := h; subst h1; rfl) | (obtain ⟨_, _, h1, _⟩ := h; subst h1; rfl) | (obtain ⟨_, _, _, h1, _⟩ := h; subst h1; rfl) | (obtain ⟨_, _, _, _, h1, _⟩ := h; subst h1; rfl) | (obtain ⟨_, _, _, _, _, h1, _⟩ := h; subst h1; rfl) | (obtain ⟨_, _, _, _, _, _, h1, _⟩ := h; subst h1; rfl) | (obtain ⟨_, _, _, _, _, _, _, h1, _⟩ := h; subst h1; rfl) | (obtain ⟨_, _, _, _, _, _, _, _, h1, _⟩ := h; subst h1; rfl) | (obtain ⟨_, _, _, _, _, _, _, _, _, h1, _⟩ := h; subst h1; rfl) | (obtain ⟨_, _, _, _, _, _, _, _, _, _, h1, _⟩ := h; subst h1; rfl) | (obtain ⟨_, _, _, _, _, _, _, _, _, _, _, h1, _⟩ := h; subst h1; rfl) | (obtain ⟨_, _, _, _, _, _, _, _, _, _, _, _, h1, _⟩ := h; subst h1; rfl)))
local macro_rules | `(tactic| row_cond dsz) => `(tactic| first | exact Nat.le_of_ble_eq_true rfl | assumption | (simp only [List.length_map, List.length_cons, List.length_append, List.length_nil, List.length_reverse, List.length_take, List.length_drop, PySem.sizeLine]; omega))
/- expressions -/
local macro_rules | `(tactic| row_cond dE) => `(tactic| first
  | ((with_reducible refine' we_name ?n ?e ?_); (case n => assumption); (case e => rfl))
  | (with_reducible refine we_int ?_)
  | (with_reducible refine we_bl ?_)
  | (with_reducible refine we_str ?_)
  | (with_reducible refine we_non ?_)
  | (with_reducible refine we_bin ?_)
  | ((with_reducible refine' we_cmp ?n ?_); (case n => rfl))
  | (with_reducible refine we_slice ?_)
  | (with_reducible refine we_rev ?_)
  | ((with_reducible refine' we_ix ?n ?_); (case n => exact fun _ _ => rfl))
  | (with_reducible refine we_tupV ?_)
  | (with_reducible refine we_lstV ?_)
  | ((with_reducible refine' we_blt ?b ?n ?m ?_); (case b => assumption); (case n => rfl); (case m => rfl))
  | ((with_reducible refine' we_typ ?b ?n ?m ?_); (case b => assumption); (case n => rfl); (case m => rfl))
  | ((with_reducible refine' we_tyName ?b ?_); (case b => assumption))
  | (with_reducible refine we_one ?_)
  | (with_reducible refine we_and ?_)
  | (with_reducible refine we_or ?_)
  | (with_reducible refine we_not ?_)
  | (with_reducible refine we_ifexp ?_)
  | ((with_reducible refine' we_un ?n ?_); (case n => exact fun z => nomatch z))
  | row_cond dcall
  | ((with_reducible refine we_bm (T := "list") PySem.F.plainAttrs_list PySem.F.slot_list_append PySem.F.type_list_append ?a ?b ?c ?d ?e ?_); (case a => rfl); (case b => rfl); (case c => rfl); (case d => rfl); (case e => rfl))
  | ((with_reducible refine we_bm0 (T := "list") PySem.F.plainAttrs_list PySem.F.slot_list_pop PySem.F.type_list_pop ?a ?b ?_); (case a => rfl); (case b => rfl))
  | ((with_reducible refine we_bm (T := "list") PySem.F.plainAttrs_list PySem.F.slot_list_extend PySem.F.type_list_extend ?a ?b ?c ?d ?e ?_); (case a => rfl); (case b => rfl); (case c => rfl); (case d => rfl); (case e => rfl)))
/- tests -/
local macro_rules | `(tactic| row_cond dT) => `(tactic| first
  | ((with_reducible refine' wt_cmp ?n ?_); (case n => rfl))
  | (with_reducible refine wt_not ?_)
  | (with_reducible refine wt_bool ?_)
  | (with_reducible refine ww_and1 ?_)
  | (with_reducible refine ww_or1 ?_)
  | (with_reducible refine ww_and ?_)
  | (with_reducible refine ww_or ?_)
  | ((with_reducible refine' wt_val ?n ?_); (case n => exact fun _ => rfl)))
/- statements -/
local macro_rules | `(tactic| row_cond dS) => `(tactic| first
  | (with_reducible refine wss_cons ?_)
  | (with_reducible refine wss_nil ?_)
  | ((with_reducible refine' ws_set ?a ?n ?h ?_); (case a => assumption); (case n => assumption); (case h => rfl))
  | ((with_reducible refine' ws_sub ?h ?_); (case h => rfl))
  | ((with_reducible refine' ws_asg ?a ?n ?h ?_); (case a => rfl); (case n => rfl); (case h => rfl))
  | (with_reducible refine ws_if ?_)
  | row_cond dret
  | ((with_reducible refine' ws_expr ?h ?_); (case h => rfl))
  | (with_reducible refine ws_pass ?_)
  | (with_reducible refine ws_break ?_)
  | (with_reducible refine ws_continue ?_)
  | (with_reducible refine ws_retN ?_))
local macro_rules | `(tactic| row_cond dSn) => `(tactic| first
  | (with_reducible refine wss_cons ?_)
  | (with_reducible refine wss_nil ?_)
  | ((with_reducible refine' ws_set ?a ?n ?h ?_); (case a => assumption); (case n => assumption); (case h => rfl))
  | ((with_reducible refine' ws_sub ?h ?_); (case h => rfl))
  | ((with_reducible refine' ws_asg ?a ?n ?h ?_); (case a => rfl); (case n => rfl); (case h => rfl))
  | row_cond dret
  | ((with_reducible refine' ws_expr ?h ?_); (case h => rfl))
  | (with_reducible refine ws_pass ?_)
  | (with_reducible refine ws_break ?_)
  | (with_reducible refine ws_continue ?_)
  | (with_reducible refine ws_retN ?_))
/- arguments, targets, values -/
local macro_rules | `(tactic| row_cond dV) => `(tactic| first
  | (with_reducible refine wa_nil ?_)
  | ((with_reducible refine' wa_cons ?n ?_); (case n => rfl))
  | (with_reducible refine wav_nil ?_)
  | ((with_reducible refine' wav_cons ?n ?_); (case n => rfl))
  | (with_reducible refine put_go ?_)
  | (with_reducible refine fz_lst ?_)
  | (with_reducible refine fz_tup ?_)
  | (with_reducible refine fz_id ?_)
  | (with_reducible refine own0_go ?_)
  | (with_reducible refine own1_go ?_)
  | (with_reducible refine app_go ?_)
  | (with_reducible refine mset_go ?_)
  | ((with_reducible refine' wg_name ?a ?n ?_); (case a => assumption); (case n => assumption))
  | ((with_reducible refine' wg_tup ?a ?n ?h ?_); (case a => assumption); (case n => rfl); (case h => rfl))
  | (with_reducible refine wgs_nil ?_)
  | ((with_reducible refine' wgs_cons ?n ?_); (case n => rfl))
  | (with_reducible refine wpt_none ?_)
  | (with_reducible refine wpt_some ?_)
  | ((with_reducible refine' wset_list ?n ?_); (case n => first | rfl | row_cond dix)))
/- what is walked -/
local macro_rules | `(tactic| row_cond dI) => `(tactic| first
  | ((with_reducible refine' wi_range1 ?a ?b ?c ?_); (case a => exact BltAt.gl (by assumption)); (case b => exact BltAt.mg (by assumption)); (case c => rfl))
  | ((with_reducible refine' wi_range2 ?a ?b ?c ?d ?_); (case a => exact BltAt.gl (by assumption)); (case b => exact BltAt.mg (by assumption)); (case c => rfl); (case d => rfl))
  | (with_reducible refine wi_val ?_)
  | (with_reducible refine wiv_list ?_)
  | (with_reducible refine wiv_tup ?_)
  | ((with_reducible refine' wgc_name ?a ?n ?h ?_); (case a => assumption); (case n => assumption); (case h => decide))
  | ((with_reducible refine' wgc_tup ?a ?n ?h ?_); (case a => assumption); (case n => rfl); (case h => rfl))
  | (with_reducible refine wgcs_nil ?_)
  | ((with_reducible refine' wgcs_cons ?n ?_); (case n => rfl))
  | (with_reducible refine wts_nil ?_)
  | (with_reducible refine wts_one ?_))
/- operations by values -/
local macro_rules | `(tactic| row_cond dO) => `(tactic| first
  | (with_reducible refine wo_add ?_)
  | (with_reducible refine wo_sub ?_)
  | ((with_reducible refine' wo_mulS ?n ?_); (case n => first | exact .inr ⟨by decide, by decide⟩ | exact .inl ⟨by decide, by decide⟩ | exact .inr ⟨by omega, by omega⟩ | exact .inl ⟨by omega, by omega⟩))
  | ((with_reducible refine' wo_fdiv ?n ?m ?_); (case n => first | decide | omega); (case m => first | decide | row_cond dlog))
  | ((with_reducible refine' wo_mod ?n ?_); (case n => first | decide | omega))
  | (with_reducible refine wo_powL ?_)
  | ((with_reducible refine' wo_pow ?n ?_); (case n => exact ⟨by decide, by decide, by decide⟩))
  | (with_reducible refine wo_xor ?_)
  | (with_reducible refine wo_lt ?_)
  | (with_reducible refine wo_le ?_)
  | (with_reducible refine wo_gt ?_)
  | (with_reducible refine wo_ge ?_)
  | (with_reducible refine wo_eqI ?_)
  | (with_reducible refine wo_neI ?_)
  | (with_reducible refine wo_eqS ?_)
  | (with_reducible refine wo_neS ?_)
  | (with_reducible refine wo_isN ?_)
  | (with_reducible refine wo_isnotN ?_)
  | (with_reducible refine wu_neg ?_)
  | (with_reducible refine wc_int ?_)
  | (with_reducible refine wc_intB ?_)
  | (with_reducible refine wc_abs ?_)
  | ((with_reducible refine' wc_max2 ?a ?_); (case a => assumption))
  | ((with_reducible refine' wc_min2 ?a ?_); (case a => assumption))
  | (with_reducible refine wc_list ?_)
  | (with_reducible refine wc_tuple ?_)
  | ((with_reducible refine' wc_lenS ?a ?_); (case a => row_cond dsz))
  | (with_reducible refine wc_lenM ?_)
  | (with_reducible refine wc_len ?_)
  | (with_reducible refine wc_isK ?_)
  | ((with_reducible refine' wc_allM ?a ?_); (case a => assumption))
  | ((with_reducible refine' wc_anyM ?a ?_); (case a => assumption))
  | ((with_reducible refine' wc_sum ?a ?_); (case a => assumption))
  | ((with_reducible refine' wx_list ?n ?_); (case n => row_cond dat))
  | ((with_reducible refine' wx_map ?a ?b ?_); (case a => omega); (case b => omega))
  | ((with_reducible refine' wx_seq ?a ?b ?_); (case a => omega); (case b => omega))
  | ((with_reducible refine' wx_tup ?n ?_); (case n => row_cond dat))
  | (with_reducible refine wsl_listM ?_)
  | (with_reducible refine wsl_list ?_)
  | (with_reducible refine wrev_goM ?_)
  | (with_reducible refine wrev_go ?_)
  | ((with_reducible refine' wo_catM ?n ?_); (case n => row_cond dsz))
  | ((with_reducible refine' wo_cat ?n ?_); (case n => row_cond dsz))
  | ((with_reducible refine' wm_append ?n ?_); (case n => row_cond dsz)))
local macro_rules | `(tactic| row_cond dat) => `(tactic| rfl)
local macro_rules | `(tactic| row_cond dix) => `(tactic| rfl)
local macro_rules | `(tactic| row_cond dlog) => `(tactic| first | decide | exact log_small (by omega) (by omega))
/- what stands between -/
local macro_rules | `(tactic| row_cond dQ) => `(tactic| first
  | (with_reducible refine ⟨_, rfl, ?_⟩)
  | (with_reducible refine br_true ?_)
  | (with_reducible refine br_false ?_)
  | (with_reducible refine rb_true ?_)
  | (with_reducible refine rb_false ?_)
  | ((with_reducible refine' br_dec ?_ ?_) <;> intro _)
  | ((with_reducible refine' br_ndec ?_ ?_) <;> intro _)
  | ((with_reducible refine' rb_dec ?_ ?_) <;> intro _)
  | ((with_reducible refine' rb_ndec ?_ ?_) <;> intro _)
  | (refine br_is rfl ?_)
  | (refine br_isnot rfl ?_)
  | (refine rb_is rfl ?_)
  | (refine rb_isnot rfl ?_)
  | ((with_reducible refine' ⟨⟨?a, ?b⟩, ?_⟩); (case a => omega); (case b => omega))
  | ((with_reducible refine' ⟨⟨?a, ?b, ?c, ?d⟩, ?_⟩); (case a => omega); (case b => omega); (case c => omega); (case d => omega))
  | (with_reducible refine app_go ?_)
  | (with_reducible refine ⟨tym_list, ?_⟩)
  | (with_reducible refine ⟨tym_str, ?_⟩)
  | ((with_reducible refine ⟨?n, ?_⟩); (case n => (show _ ≤ PySem.sizeLine); row_cond dsz))
  | (with_reducible intro _))
local macro_rules | `(tactic| row_cond dstart) => `(tactic| simp only [startD, List.map_cons, List.map_nil, List.length_cons, List.length_nil, List.cons_append, List.nil_append, Nat.zero_add, Nat.reduceAdd, Nat.reduceSub, List.replicate_succ, List.replicate_zero])
local macro_rules | `(tactic| row_cond d) => `(tactic| first | row_cond dE | row_cond dV | row_cond dO | row_cond dT | row_cond dS | row_cond dI | row_cond dmore | row_cond dspec | row_cond dQ)
local macro_rules | `(tactic| row_cond dn) => `(tactic| first | row_cond dE | row_cond dV | row_cond dO | row_cond dT | row_cond dSn | row_cond dI | row_cond dmore | row_cond dspec | row_cond dQ)
local macro_rules | `(tactic| row_cond gon) => `(tactic| repeat' (row_cond dn))
local macro_rules | `(tactic| row_cond go) => `(tactic| repeat' (row_cond d))
/- the later parts of the layer -/
local macro_rules | `(tactic| row_cond dE) => `(tactic| first
  | ((with_reducible refine' we_sortedSet ?a ?b ?c ?d ?e ?_); (case a => assumption); (case b => assumption); (case c => assumption); (case d => rfl); (case e => rfl))
  | ((with_reducible refine' we_get2 ?a ?b ?_); (case a => assumption); (case b => exact ⟨rfl, rfl, rfl, rfl⟩))
  | ((with_reducible refine' we_get1 ?a ?b ?_); (case a => assumption); (case b => exact ⟨rfl, rfl, rfl, rfl⟩))
  | ((with_reducible refine' we_pop1 ?b ?_); (case b => exact ⟨rfl, rfl, rfl, rfl⟩)))
local macro_rules | `(tactic| row_cond dO) => `(tactic| first
  | ((with_reducible refine' wc_sorted ?a ?b ?c ?_); (case a => assumption); (case b => decide); (case c => first | exact fun _ _ => trivial | assumption))
  | ((with_reducible refine' wsorted_go ?a ?_); (case a => first | assumption | omega))
  | ((with_reducible refine' wo_inD ?a ?b ?_); (case a => assumption); (case b => decide))
  | ((with_reducible refine' wo_ninD ?a ?b ?_); (case a => assumption); (case b => decide))
  | (with_reducible refine getD_K ?_)
  | (with_reducible refine getD_T ?_)
  | ((with_reducible refine' wsl_txt ?a ?_); (case a => row_cond dsz))
  | ((with_reducible refine' wx_strN ?a ?b ?c ?_); (case a => row_cond dsz); (case b => omega); (case c => first | omega | (simp only [PySem.Str.length]; omega)))
  | (with_reducible refine ⟨isDD_K, ?_⟩)
  | (with_reducible refine ⟨isDD_T, ?_⟩))
local macro_rules | `(tactic| row_cond dO) => `(tactic| first
  | ((with_reducible refine' wm_appendM ?n ?_); (case n => row_cond dsz)))
local macro_rules | `(tactic| row_cond dE) => `(tactic| ((with_reducible refine' we_con ?c ?_); (case c => assumption)))
local macro_rules | `(tactic| row_cond dV) => `(tactic| first
  | (with_reducible refine wk_nil ?_)
  | (with_reducible refine wk_cons ?_)
  | (with_reducible refine ⟨rfl, rfl, ?_⟩))
local macro_rules | `(tactic| row_cond dI) => `(tactic| ((with_reducible refine' wi_range3 ?a ?b ?c ?d ?_); (case a => exact BltAt.gl (by assumption)); (case b => exact BltAt.mg (by assumption)); (case c => rfl); (case d => rfl)))
local macro_rules | `(tactic| row_cond dO) => `(tactic| first
  | ((with_reducible refine' wc_lenS ?a ?_); (case a => row_cond dsz)))
local macro_rules | `(tactic| row_cond dO) => `(tactic| first
  | ((with_reducible refine' wo_addS ?a ?_); (case a => row_cond dsz)))
local macro_rules | `(tactic| row_cond dO) => `(tactic| first
  | ((with_reducible refine' wo_addS2 ?a ?_); (case a => first | decide | omega))
  | ((with_reducible refine' wsl_txt2 ?a ?_); (case a => first | decide | omega))
  | ((with_reducible refine' wc_lenS2 ?a ?_); (case a => first | decide | omega)))
local macro_rules | `(tactic| row_cond dE) => `(tactic| first
  | ((with_reducible refine we_bm (T := "str") PySem.F.plainAttrs_str PySem.F.slot_str_index PySem.F.type_str_index ?a ?b ?c ?d ?e ?_); (case a => rfl); (case b => rfl); (case c => rfl); (case d => rfl); (case e => rfl))
  | ((with_reducible refine we_bm (T := "str") PySem.F.plainAttrs_str PySem.F.slot_str_join PySem.F.type_str_join ?a ?b ?c ?d ?e ?_); (case a => rfl); (case b => rfl); (case c => rfl); (case d => rfl); (case e => rfl))
  | ((with_reducible refine we_bm (T := "str") PySem.F.plainAttrs_str PySem.F.slot_str_startswith PySem.F.type_str_startswith ?a ?b ?c ?d ?e ?_); (case a => rfl); (case b => rfl); (case c => rfl); (case d => rfl); (case e => rfl)))
local macro_rules | `(tactic| row_cond dO) => `(tactic| first
  | (with_reducible refine wm_starts ?_))
local macro_rules | `(tactic| row_cond dret) => `(tactic| (with_reducible refine ws_ret ?_))
local macro_rules | `(tactic| row_cond dO) => `(tactic| first
  | ((with_reducible refine' wx_asK ?a ?b ?_); (case a => assumption); (case b => assumption))
  | ((with_reducible refine' wo_inAsK ?a ?_); (case a => assumption))
  | ((with_reducible refine' wo_ninAsK ?a ?_); (case a => assumption))
  | ((with_reducible refine' wset_asK ?a ?b ?_); (case a => assumption); (case b => row_cond dsz))
  | (with_reducible refine getD_asK ?_)
  | ((with_reducible refine' popD_asK ?b ?_); (case b => assumption))
  | ((with_reducible refine' wx_asT ?a ?b ?_); (case a => assumption); (case b => assumption))
  | ((with_reducible refine' wo_inAsT ?a ?_); (case a => assumption))
  | ((with_reducible refine' wo_ninAsT ?a ?_); (case a => assumption))
  | ((with_reducible refine' wset_asT ?a ?b ?_); (case a => assumption); (case b => row_cond dsz))
  | (with_reducible refine getD_asT ?_)
  | ((with_reducible refine' wc_sortedAs ?a ?_); (case a => assumption)))
local macro_rules | `(tactic| row_cond dO) => `(tactic| first
  | (with_reducible refine wc_lenAsK ?_)
  | (with_reducible refine wc_lenAsT ?_))
local macro_rules | `(tactic| row_cond dI) => `(tactic| first
  | (with_reducible refine wiv_asK ?_))

local macro_rules | `(tactic| row_cond disd) => `(tactic| first | assumption | exact isd_int _ _ | exact isd_str _ _ | exact isd_non _ | exact isd_mapL (by first | omega | assumption) (by decide) | exact isd_mapT (by first | omega | assumption) (by decide))
local macro_rules | `(tactic| row_cond dspec) => `(tactic| first
  | ((with_reducible refine' sp_law_next_go ?a ?b ?c ?_); (case a => assumption); (case b => first | decide | omega | (split <;> omega)); (case c => first | decide | omega | (split <;> omega)))
  | (with_reducible refine sp_law_mix_go ?_)
  | ((with_reducible refine' sp_law_is_self ?a ?_); (case a => row_cond disd))
  | ((with_reducible refine' sp_law_is_lst ?a ?_); (case a => row_cond disd)))
local macro_rules | `(tactic| row_cond dmore) => `(tactic| first
  | (with_reducible refine ⟨_, [], rfl, ?_⟩))

/-! ### tables -/
abbrev gW : Str → Key := Sum.inr
abbrev Tb (es : List Ent) : D := .dK (asK gW D.int es)
def sp_law_entries : SpD := fun ds M R Q => ∃ (p : Addr) (es : List Ent), ds = [.ref p] ∧ M = [] ∧ (p, Tb es) ∈ R ∧ (es.map (·.1)).Nodup ∧ es.length ≤ 100 ∧ Q (.tup ((srt (ltP2 ltS ltI) es).map encE)) []
theorem srt_rows {es : List Ent} (nd : (es.map (·.1)).Nodup) (val : Str → Int) (hv : ∀ e ∈ es, val e.1 = e.2) : (srt ltS (es.map (·.1))).map (fun w => (w, val w)) = srt (ltP2 ltS ltI) es := by
  have hE : DOrd encE (ltP2 ltS ltI) 1 := inferInstance
  have hS : DOrd D.str ltS 0 := inferInstance
  refine hE.uniq ?_ ?_ (hE.srt_sorted es)
  · have e1 : ((es.map (·.1)).map fun w => (w, val w)) = es := by
      rw [List.map_map]
      refine (List.map_congr_left fun e he => ?_).trans (List.map_id _)
      show (e.1, val e.1) = e
      rw [hv e he]
    have p1 := (srt_perm (lt := ltS) (xs := es.map (·.1))).map fun w => (w, val w)
    rw [e1] at p1
    exact p1.trans srt_perm.symm
  · refine (List.pairwise_map).mpr ((hS.srt_strict nd).imp fun {a b} h => ?_)
    show (ltS b a || (!ltS a b && ltI (val b) (val a))) = false
    rw [hS.asym h, h]; rfl
theorem cal_law_entries {P : Program} {w : World} {K : PySem.W.Frag} {mg : Str → Option Value} {base : Heap} (T : Tx mg) (Da : DefAt K mg "_law_entries" s_law_entries)  : Cal P w K mg base (1) "_law_entries" sp_law_entries := by
  refine calD (k := 0) Da sc_law_entries (fun f fd Fu => Fu.binds fun _ _ _ _ _ _ us hl => match us, hl with | [_], _ => rfl) (by row_cond dlen) (fun X F hX nm ds M R Q hS => ?_)
  have hst := hX.std
  have n_table : NameAt X 0 "table" := nm.name rfl (.inr rfl) (by decide) (by decide)
  have s_table : StoreAt X 0 "table" := nm.store rfl (.inr rfl)
  have b_tuple : BltAt X "tuple" (.type "tuple") := nm.blt hX rfl T.z_tuple bo_tuple (by decide) (by decide)
  have b_sorted : BltAt X "sorted" (.builtin "sorted") := nm.blt hX rfl T.z_sorted bo_sorted (by decide) (by decide)
  obtain ⟨p, es, rfl, rfl, hm, nd, hl, hq⟩ := hS
  obtain ⟨j, hj⟩ := List.getElem?_of_mem hm
  haveI : SeeK [] R (.ref p) (asK gW D.int es) := ⟨.rd hm⟩
  row_cond dstart
  refine wss_cons ?_
  row_cond go
  refine we_lc' hst (own := [("word", 1)]) (nm.blk (by decide +kernel)) (fun _ => rfl) rfl ?_
  row_cond go
  rename_i q
  have hget : ∀ e ∈ es, getE es e.1 = some e.2 := fun e he => getE_of nd he
  refine lc_name hX (by rw [nm.N]; rfl) (.inl rfl) (fun i acc M' => acc = (((srt ltS (es.map (·.1))).take i).map fun w => encE (w, (getE es w).getD 0)) ∧ M' = [(q, .lst ((srt ltS (es.map (·.1))).map D.str))]) ⟨rfl, rfl⟩ (fun a j acc M' h => ?_) (fun a i x acc M' hx hW => ?_) (fun a acc M' hW => ?_)
  · obtain ⟨rfl, rfl⟩ := h
    exact (inferInstance : SeeL _ _ _ _).see
  · obtain ⟨rfl, rfl⟩ := hW
    rw [List.getElem?_map] at hx
    obtain ⟨w, hw, rfl⟩ := Option.map_eq_some_iff.mp hx
    have hwm : w ∈ es.map (·.1) := mem_srt.mp (List.mem_of_getElem? hw)
    obtain ⟨e, he, rfl⟩ := List.mem_map.mp hwm
    have hg := hget e he
    refine put_go (fun X' hb => ?_)
    have hX_X' := hb.inn hX
    have hst_X' := hX_X'.std
    have n_word_X' : NameAt X' 1 "word" := hb.name (by rw [nm.N]; rfl) (by first | exact .inl rfl | exact .inr (.inl rfl) | exact .inr (.inr rfl)) (by decide) (by decide)
    have s_word_X' : StoreAt X' 1 "word" := hb.store (by rw [nm.N]; rfl) (by first | exact .inl rfl | exact .inr rfl)
    have n_table_X' : NameAt X' 0 "table" := hb.name (by rw [nm.N]; rfl) (by first | exact .inl rfl | exact .inr (.inl rfl) | exact .inr (.inr rfl)) (by decide) (by decide)
    row_cond go
    refine lcend_id (by
      rw [List.length_map, List.length_take, srt_len, List.length_map]
      show _ < 16777216
      omega) ⟨?_, rfl⟩
    rw [List.take_add_one, hw, List.map_append]
    show _ = _ ++ [encE (e.1, (getE es e.1).getD 0)]
    rw [hg]
    rfl
  · obtain ⟨rfl, rfl⟩ := hW
    rw [List.length_map, List.take_length]
    have e2 := srt_rows nd (fun w => (getE es w).getD 0) (fun e he => by rw [hget e he]; rfl)
    row_cond go
    refine rt0 ?_
    rw [← e2, List.map_map] at hq
    exact hq
/-- the rows told as a folder's entries -/
theorem sorted_put {es : List Ent} (nd : (es.map (·.1)).Nodup) (w : Str) (s : Int) : srt (ltP2 ltS ltI) (((srt (ltP2 ltS ltI) es).filter fun e => decide (e.1 ≠ w)) ++ [(w, s)]) = srt (ltP2 ltS ltI) (putE es w s) := by
  have hE : DOrd encE (ltP2 ltS ltI) 1 := inferInstance
  refine hE.srt_eq ?_
  exact ((srt_perm.filter _).append (List.Perm.refl _)).trans (putE_perm nd w s).symm
theorem sorted_del {es : List Ent} (w : Str) : ((srt (ltP2 ltS ltI) es).filter fun e => decide (e.1 ≠ w)) = srt (ltP2 ltS ltI) (delE es w) := by
  have hE : DOrd encE (ltP2 ltS ltI) 1 := inferInstance
  refine hE.uniq ((srt_perm.filter _).trans srt_perm.symm) ?_ (hE.srt_sorted _)
  exact (hE.srt_sorted es).filter _
theorem find_srt {es : List Ent} (nd : (es.map (·.1)).Nodup) (w : Str) : ((srt (ltP2 ltS ltI) es).find? fun e => decide (e.1 = w)).elim D.non (fun e => .int e.2) = ((getE es w).map D.int).getD .non := by
  have e1 : getE (srt (ltP2 ltS ltI) es) w = getE es w := by
    have nd2 : ((srt (ltP2 ltS ltI) es).map (·.1)).Nodup := (srt_perm.map _).nodup_iff.mpr nd
    cases h : getE es w with
    | some b => exact getE_of nd2 (mem_srt.mpr (getE_mem h))
    | none =>
      cases h2 : getE (srt (ltP2 ltS ltI) es) w with
      | none => rfl
      | some b =>
        have := getE_of nd (mem_srt.mp (getE_mem h2))
        rw [h] at this; cases this
  rw [← e1]
  unfold getE
  cases (srt (ltP2 ltS ltI) es).find? fun e => decide (e.1 = w) <;> rfl

end K18


namespace K18
open PySem PySem.Spec PyProof.Rows L2 DL
local macro_rules | `(tactic| row_cond dcall) => `(tactic| first
  | ((with_reducible refine' we_callX (x := "chunks") ?c ?x ?j ?g ?d ?e ?p ?_); (case c => assumption); (case x => assumption); (case j => first | decide | exact Nat.le_refl _ | omega); (case g => assumption); (case d => decide); (case e => rfl); (case p => rfl))
  | ((with_reducible refine' we_callK (x := "chunks") ?c ?x ?j ?g ?a ?k ?d ?e ?p ?_); (case c => assumption); (case x => assumption); (case j => first | decide | exact Nat.le_refl _ | omega); (case g => assumption); (case a => rfl); (case k => rfl); (case d => decide); (case e => rfl); (case p => rfl))
  | ((with_reducible refine' we_call (x := "refs") ?c ?x ?j ?g ?d ?e ?p ?_); (case c => assumption); (case x => assumption); (case j => first | decide | exact Nat.le_refl _ | omega); (case g => assumption); (case d => decide); (case e => rfl); (case p => rfl))
  | ((with_reducible refine' we_call (x := "find_entry") ?c ?x ?j ?g ?d ?e ?p ?_); (case c => assumption); (case x => assumption); (case j => first | decide | exact Nat.le_refl _ | omega); (case g => assumption); (case d => decide); (case e => rfl); (case p => rfl))
  | ((with_reducible refine' we_call (x := "with_entry") ?c ?x ?j ?g ?d ?e ?p ?_); (case c => assumption); (case x => assumption); (case j => first | decide | exact Nat.le_refl _ | omega); (case g => assumption); (case d => decide); (case e => rfl); (case p => rfl))
  | ((with_reducible refine' we_call (x := "without_entry") ?c ?x ?j ?g ?d ?e ?p ?_); (case c => assumption); (case x => assumption); (case j => first | decide | exact Nat.le_refl _ | omega); (case g => assumption); (case d => decide); (case e => rfl); (case p => rfl))
  | ((with_reducible refine' we_call (x := "_law_mix") ?c ?x ?j ?g ?d ?e ?p ?_); (case c => assumption); (case x => assumption); (case j => first | decide | exact Nat.le_refl _ | omega); (case g => assumption); (case d => decide); (case e => rfl); (case p => rfl))
  | ((with_reducible refine' we_call (x := "_law_start") ?c ?x ?j ?g ?d ?e ?p ?_); (case c => assumption); (case x => assumption); (case j => first | decide | exact Nat.le_refl _ | omega); (case g => assumption); (case d => decide); (case e => rfl); (case p => rfl))
  | ((with_reducible refine' we_call1 (x := "_law_next") ?c ?x ?j ?g ?d ?e ?p ?_); (case c => assumption); (case x => assumption); (case j => first | decide | exact Nat.le_refl _ | omega); (case g => assumption); (case d => decide); (case e => rfl); (case p => rfl))
  | ((with_reducible refine' we_call (x := "_law_is") ?c ?x ?j ?g ?d ?e ?p ?_); (case c => assumption); (case x => assumption); (case j => first | decide | exact Nat.le_refl _ | omega); (case g => assumption); (case d => decide); (case e => rfl); (case p => rfl))
  | ((with_reducible refine' we_call1 (x := "_law_names") ?c ?x ?j ?g ?d ?e ?p ?_); (case c => assumption); (case x => assumption); (case j => first | decide | exact Nat.le_refl _ | omega); (case g => assumption); (case d => decide); (case e => rfl); (case p => rfl))
  | ((with_reducible refine' we_call1 (x := "_law_text") ?c ?x ?j ?g ?d ?e ?p ?_); (case c => assumption); (case x => assumption); (case j => first | decide | exact Nat.le_refl _ | omega); (case g => assumption); (case d => decide); (case e => rfl); (case p => rfl))
  | ((with_reducible refine' we_call (x := "_law_entries") ?c ?x ?j ?g ?d ?e ?p ?_); (case c => assumption); (case x => assumption); (case j => first | decide | exact Nat.le_refl _ | omega); (case g => assumption); (case d => decide); (case e => rfl); (case p => rfl))
  | ((with_reducible refine' we_call (x := "_law_told_refs") ?c ?x ?j ?g ?d ?e ?p ?_); (case c => assumption); (case x => assumption); (case j => first | decide | exact Nat.le_refl _ | omega); (case g => assumption); (case d => decide); (case e => rfl); (case p => rfl))
  | ((with_reducible refine' we_call (x := "_law_folder") ?c ?x ?j ?g ?d ?e ?p ?_); (case c => assumption); (case x => assumption); (case j => first | decide | exact Nat.le_refl _ | omega); (case g => assumption); (case d => decide); (case e => rfl); (case p => rfl))
  | ((with_reducible refine' we_call1 (x := "_law_file") ?c ?x ?j ?g ?d ?e ?p ?_); (case c => assumption); (case x => assumption); (case j => first | decide | exact Nat.le_refl _ | omega); (case g => assumption); (case d => decide); (case e => rfl); (case p => rfl))
  | ((with_reducible refine' we_call (x := "_law_pieces") ?c ?x ?j ?g ?d ?e ?p ?_); (case c => assumption); (case x => assumption); (case j => first | decide | exact Nat.le_refl _ | omega); (case g => assumption); (case d => decide); (case e => rfl); (case p => rfl))
  | ((with_reducible refine' we_call (x := "law") ?c ?x ?j ?g ?d ?e ?p ?_); (case c => assumption); (case x => assumption); (case j => first | decide | exact Nat.le_refl _ | omega); (case g => assumption); (case d => decide); (case e => rfl); (case p => rfl)))
/-! the steps: one line a construct -/
local macro_rules | `(tactic| row_cond dlen) => `(tactic| (intro ds M R Q h; first | (obtain ⟨h1, _⟩ := h; subst h1; rfl) | (obtain ⟨_, h1, _⟩ := h; subst h1; rfl) | (obtain ⟨_, _, h1, _⟩ := h; subst h1; rfl) | (obtain ⟨_, _, _, h1, _⟩ := h; subst h1; rfl) | (obtain ⟨_, _, _, _, h1, _⟩ := h; subst h1; rfl) | (obtain ⟨_, _, _, _, _, h1, _⟩ := h; subst h1; rfl) | (obtain ⟨_, _, _, _, _, _, h1, _⟩ := h; subst h1; rfl) | (obtain ⟨_, _, _, _, _, _, _, h1, _⟩ := h; subst h1; rfl) | (obtain ⟨_, _, _, _, _, _, _, _, h1, _⟩ := h; subst h1; rfl) | (obtain ⟨_, _, _, _, _, _, _, _, _, h1, _⟩ := h; subst h1; rfl) | (obtain ⟨_, _, _, _, _, _, _, _, _, _, h1, _⟩ := h; subst h1; rfl) | (obtain ⟨_, _, _, _, _, _, _, _, _, _, _, h1, _⟩ := h; subst h1; rfl) | (obtain ⟨_, _, _, _, _, _, _, _, _, _, _, _, h1, _⟩ := h; subst h1; rfl)))
local macro_rules | `(tactic| row_cond dsz) => `(tactic| first | exact Nat.le_of_ble_eq_true rfl | assumption | (simp only [List.length_map, List.length_cons, List.length_append, List.length_nil, List.length_reverse, List.length_take, List.length_drop, PySem.sizeLine]; omega))
/- expressions -/
local macro_rules | `(tactic| row_cond dE) => `(tactic| first
  | ((with_reducible refine' we_name ?n ?e ?_); (case n => assumption); (case e => rfl))
  | (with_reducible refine we_int ?_)
  | (with_reducible refine we_bl ?_)
  | (with_reducible refine we_str ?_)
  | (with_reducible refine we_non ?_)
  | (with_reducible refine we_bin ?_)
  | ((with_reducible refine' we_cmp ?n ?_); (case n => rfl))
  | (with_reducible refine we_slice ?_)
  | (with_reducible refine we_rev ?_)
  | ((with_reducible refine' we_ix ?n ?_); (case n => exact fun _ _ => rfl))
  | (with_reducible refine we_tupV ?_)
  | (with_reducible refine we_lstV ?_)
  | ((with_reducible refine' we_blt ?b ?n ?m ?_); (case b => assumption); (case n => rfl); (case m => rfl))
  | ((with_reducible refine' we_typ ?b ?n ?m ?_); (case b => assumption); (case n => rfl); (case m => rfl))
  | ((with_reducible refine' we_tyName ?b ?_); (case b => assumption))
  | (with_reducible refine we_one ?_)
  | (with_reducible refine we_and ?_)
  | (with_reducible refine we_or ?_)
  | (with_reducible refine we_not ?_)
  | (with_reducible refine we_ifexp ?_)
  | ((with_reducible refine' we_un ?n ?_); (case n => exact fun z => nomatch z))
  | row_cond dcall
  | ((with_reducible refine we_bm (T := "list") PySem.F.plainAttrs_list PySem.F.slot_list_append PySem.F.type_list_append ?a ?b ?c ?d ?e ?_); (case a => rfl); (case b => rfl); (case c => rfl); (case d => rfl); (case e => rfl))
  | ((with_reducible refine we_bm0 (T := "list") PySem.F.plainAttrs_list PySem.F.slot_list_pop PySem.F.type_list_pop ?a ?b ?_); (case a => rfl); (case b => rfl))
  | ((with_reducible refine we_bm (T := "list") PySem.F.plainAttrs_list PySem.F.slot_list_extend PySem.F.type_list_extend ?a ?b ?c ?d ?e ?_); (case a => rfl); (case b => rfl); (case c => rfl); (case d => rfl); (case e => rfl)))
/- tests -/
local macro_rules | `(tactic| row_cond dT) => `(tactic| first
  | ((with_reducible refine' wt_cmp ?n ?_); (case n => rfl))
  | (with_reducible refine wt_not ?_)
  | (with_reducible refine wt_bool ?_)
  | (with_reducible refine ww_and1 ?_)
  | (with_reducible refine ww_or1 ?_)
  | (with_reducible refine ww_and ?_)
  | (with_reducible refine ww_or ?_)
  | ((with_reducible refine' wt_val ?n ?_); (case n => exact fun _ => rfl)))
/- statements -/
local macro_rules | `(tactic| row_cond dS) => `(tactic| first
  | (with_reducible refine wss_cons ?_)
  | (with_reducible refine wss_nil ?_)
  | ((with_reducible refine' ws_set ?a ?n ?h ?_); (case a => assumption); (case n => assumption); (case h => rfl))
  | ((with_reducible refine' ws_sub ?h ?_); (case h => rfl))
  | ((with_reducible refine' ws_asg ?a ?n ?h ?_); (case a => rfl); (case n => rfl); (case h => rfl))
  | (with_reducible refine ws_if ?_)
  | row_cond dret
  | ((with_reducible refine' ws_expr ?h ?_); (case h => rfl))
  | (with_reducible refine ws_pass ?_)
  | (with_reducible refine ws_break ?_)
  | (with_reducible refine ws_continue ?_)
  | (with_reducible refine ws_retN ?_))
local macro_rules | `(tactic| row_cond dSn) => `(tactic| first
  | (with_reducible refine wss_cons ?_)
  | (with_reducible refine wss_nil ?_)
  | ((with_reducible refine' ws_set ?a ?n ?h ?_); (case a => assumption); (case n => assumption); (case h => rfl))
  | ((with_reducible refine' ws_sub ?h ?_); (case h => rfl))
  | ((with_reducible refine' ws_asg ?a ?n ?h ?_); (case a => rfl); (case n => rfl); (case h => rfl))
  | row_cond dret
  | ((with_reducible refine' ws_expr ?h ?_); (case h => rfl))
  | (with_reducible refine ws_pass ?_)
  | (with_reducible refine ws_break ?_)
  | (with_reducible refine ws_continue ?_)
  | (with_reducible refine ws_retN ?_))
/- arguments, targets, values -/
local macro_rules | `(tactic| row_cond dV) => `(tactic| first
  | (with_reducible refine wa_nil ?_)
  | ((with_reducible refine' wa_cons ?n ?_); (case n => rfl))
  | (with_reducible refine wav_nil ?_)
  | ((with_reducible refine' wav_cons ?n ?_); (case n => rfl))
  | (with_reducible refine put_go ?_)
  | (with_reducible refine fz_lst ?_)
  | (with_reducible refine fz_tup ?_)
  | (with_reducible refine fz_id ?_)
  | (with_reducible refine own0_go ?_)
  | (with_reducible refine own1_go ?_)
  | (with_reducible refine app_go ?_)
  | (with_reducible refine mset_go ?_)
  | ((with_reducible refine' wg_name ?a ?n ?_); (case a => assumption); (case n => assumption))
  | ((with_reducible refine' wg_tup ?a ?n ?h ?_); (case a => assumption); (case n => rfl); (case h => rfl))
  | (with_reducible refine wgs_nil ?_)
  | ((with_reducible refine' wgs_cons ?n ?_); (case n => rfl))
  | (with_reducible refine wpt_none ?_)
  | (with_reducible refine wpt_some ?_)
  | ((with_reducible refine' wset_list ?n ?_); (case n => first | rfl | row_cond dix)))
/- what is walked -/
local macro_rules | `(tactic| row_cond dI) => `(tactic| first
  | ((with_reducible refine' wi_range1 ?a ?b ?c ?_); (case a => exact BltAt.gl (by assumption)); (case b => exact BltAt.mg (by assumption)); (case c => rfl))
  | ((with_reducible refine' wi_range2 ?a ?b ?c ?d ?_); (case a => exact BltAt.gl (by assumption)); (case b => exact BltAt.mg (by assumption)); (case c => rfl); (case d => rfl))
  | (with_reducible refine wi_val ?_)
  | (with_reducible refine wiv_list ?_)
  | (with_reducible refine wiv_tup ?_)
  | ((with_reducible refine' wgc_name ?a ?n ?h ?_); (case a => assumption); (case n => assumption); (case h => decide))
  | ((with_reducible refine' wgc_tup ?a ?n ?h ?_); (case a => assumption); (case n => rfl); (case h => rfl))
  | (with_reducible refine wgcs_nil ?_)
  | ((with_reducible refine' wgcs_cons ?n ?_); (case n => rfl))
  | (with_reducible refine wts_nil ?_)
  | (with_reducible refine wts_one ?_))
/- operations by values -/
local macro_rules | `(tactic| row_cond dO) => `(tactic| first
  | (with_reducible refine wo_add ?_)
  | (with_reducible refine wo_sub ?_)
  | ((with_reducible refine' wo_mulS ?n ?_); (case n => first | exact .inr ⟨by decide, by decide⟩ | exact .inl ⟨by decide, by decide⟩ | exact .inr ⟨by omega, by omega⟩ | exact .inl ⟨by omega, by omega⟩))
  | ((with_reducible refine' wo_fdiv ?n ?m ?_); (case n => first | decide | omega); (case m => first | decide | row_cond dlog))
  | ((with_reducible refine' wo_mod ?n ?_); (case n => first | decide | omega))
  | (with_reducible refine wo_powL ?_)
  | ((with_reducible refine' wo_pow ?n ?_); (case n => exact ⟨by decide, by decide, by decide⟩))
  | (with_reducible refine wo_xor ?_)
  | (with_reducible refine wo_lt ?_)
  | (with_reducible refine wo_le ?_)
  | (with_reducible refine wo_gt ?_)
  | (with_reducible refine wo_ge ?_)
  | (with_reducible refine wo_eqI ?_)
  | (with_reducible refine wo_neI ?_)
  | (with_reducible refine wo_eqS ?_)
  | (with_reducible refine wo_neS ?_)
  | (with_reducible refine wo_isN ?_)
  | (with_reducible refine wo_isnotN ?_)
  | (with_reducible refine wu_neg ?_)
  | (with_reducible refine wc_int ?_)
  | (with_reducible refine wc_intB ?_)
  | (with_reducible refine wc_abs ?_)
  | ((with_reducible refine' wc_max2 ?a ?_); (case a => assumption))
  | ((with_reducible refine' wc_min2 ?a ?_); (case a => assumption))
  | (with_reducible refine wc_list ?_)
  | (with_reducible refine wc_tuple ?_)
  | ((with_reducible refine' wc_lenS ?a ?_); (case a => row_cond dsz))
  | (with_reducible refine wc_lenM ?_)
  | (with_reducible refine wc_len ?_)
  | (with_reducible refine wc_isK ?_)
  | ((with_reducible refine' wc_allM ?a ?_); (case a => assumption))
  | ((with_reducible refine' wc_anyM ?a ?_); (case a => assumption))
  | ((with_reducible refine' wc_sum ?a ?_); (case a => assumption))
  | ((with_reducible refine' wx_list ?n ?_); (case n => row_cond dat))
  | ((with_reducible refine' wx_map ?a ?b ?_); (case a => omega); (case b => omega))
  | ((with_reducible refine' wx_seq ?a ?b ?_); (case a => omega); (case b => omega))
  | ((with_reducible refine' wx_tup ?n ?_); (case n => row_cond dat))
  | (with_reducible refine wsl_listM ?_)
  | (with_reducible refine wsl_list ?_)
  | (with_reducible refine wrev_goM ?_)
  | (with_reducible refine wrev_go ?_)
  | ((with_reducible refine' wo_catM ?n ?_); (case n => row_cond dsz))
  | ((with_reducible refine' wo_cat ?n ?_); (case n => row_cond dsz))
  | ((with_reducible refine' wm_append ?n ?_); (case n => row_cond dsz)))
local macro_rules | `(tactic| row_cond dat) => `(tactic| rfl)
local macro_rules | `(tactic| row_cond dix) => `(tactic| rfl)
local macro_rules | `(tactic| row_cond dlog) => `(tactic| first | decide | exact log_small (by omega) (by omega))
/- what stands between -/
local macro_rules | `(tactic| row_cond dQ) => `(tactic| first
  | (with_reducible refine ⟨_, rfl, ?_⟩)
  | (with_reducible refine br_true ?_)
  | (with_reducible refine br_false ?_)
  | (with_reducible refine rb_true ?_)
  | (with_reducible refine rb_false ?_)
  | ((with_reducible refine' br_dec ?_ ?_) <;> intro _)
  | ((with_reducible refine' br_ndec ?_ ?_) <;> intro _)
  | ((with_reducible refine' rb_dec ?_ ?_) <;> intro _)
  | ((with_reducible refine' rb_ndec ?_ ?_) <;> intro _)
  | (refine br_is rfl ?_)
  | (refine br_isnot rfl ?_)
  | (refine rb_is rfl ?_)
  | (refine rb_isnot rfl ?_)
  | ((with_reducible refine' ⟨⟨?a, ?b⟩, ?_⟩); (case a => omega); (case b => omega))
  | ((with_reducible refine' ⟨⟨?a, ?b, ?c, ?d⟩, ?_⟩); (case a => omega); (case b => omega); (case c => omega); (case d => omega))
  | (with_reducible refine app_go ?_)
  | (with_reducible refine ⟨tym_list, ?_⟩)
  | (with_reducible refine ⟨tym_str, ?_⟩)
  | ((with_reducible refine ⟨?n, ?_⟩); (case n => (show _ ≤ PySem.sizeLine); row_cond dsz))
  | (with_reducible intro _))
local macro_rules | `(tactic| row_cond dstart) => `(tactic| simp only [startD, List.map_cons, List.map_nil, List.length_cons, List.length_nil, List.cons_append, List.nil_append, Nat.zero_add, Nat.reduceAdd, Nat.reduceSub, List.replicate_succ, List.replicate_zero])
local macro_rules | `(tactic| row_cond d) => `(tactic| first | row_cond dE | row_cond dV | row_cond dO | row_cond dT | row_cond dS | row_cond dI | row_cond dmore | row_cond dspec | row_cond dQ)
local macro_rules | `(tactic| row_cond dn) => `(tactic| first | row_cond dE | row_cond dV | row_cond dO | row_cond dT | row_cond dSn | row_cond dI | row_cond dmore | row_cond dspec | row_cond dQ)
local macro_rules | `(tactic| row_cond gon) => `(tactic| repeat' (row_cond dn))
local macro_rules | `(tactic| row_cond go) => `(tactic| repeat' (row_cond d))
/- the later parts of the layer -/
local macro_rules | `(tactic| row_cond dE) => `(tactic| first
  | ((with_reducible refine' we_sortedSet ?a ?b ?c ?d ?e ?_); (case a => assumption); (case b => assumption); (case c => assumption); (case d => rfl); (case e => rfl))
  | ((with_reducible refine' we_get2 ?a ?b ?_); (case a => assumption); (case b => exact ⟨rfl, rfl, rfl, rfl⟩))
  | ((with_reducible refine' we_get1 ?a ?b ?_); (case a => assumption); (case b => exact ⟨rfl, rfl, rfl, rfl⟩))
  | ((with_reducible refine' we_pop1 ?b ?_); (case b => exact ⟨rfl, rfl, rfl, rfl⟩)))
local macro_rules | `(tactic| row_cond dO) => `(tactic| first
  | ((with_reducible refine' wc_sorted ?a ?b ?c ?_); (case a => assumption); (case b => decide); (case c => first | exact fun _ _ => trivial | assumption))
  | ((with_reducible refine' wsorted_go ?a ?_); (case a => first | assumption | omega))
  | ((with_reducible refine' wo_inD ?a ?b ?_); (case a => assumption); (case b => decide))
  | ((with_reducible refine' wo_ninD ?a ?b ?_); (case a => assumption); (case b => decide))
  | (with_reducible refine getD_K ?_)
  | (with_reducible refine getD_T ?_)
  | ((with_reducible refine' wsl_txt ?a ?_); (case a => row_cond dsz))
  | ((with_reducible refine' wx_strN ?a ?b ?c ?_); (case a => row_cond dsz); (case b => omega); (case c => first | omega | (simp only [PySem.Str.length]; omega)))
  | (with_reducible refine ⟨isDD_K, ?_⟩)
  | (with_reducible refine ⟨isDD_T, ?_⟩))
local macro_rules | `(tactic| row_cond dO) => `(tactic| first
  | ((with_reducible refine' wm_appendM ?n ?_); (case n => row_cond dsz)))
local macro_rules | `(tactic| row_cond dE) => `(tactic| ((with_reducible refine' we_con ?c ?_); (case c => assumption)))
local macro_rules | `(tactic| row_cond dV) => `(tactic| first
  | (with_reducible refine wk_nil ?_)
  | (with_reducible refine wk_cons ?_)
  | (with_reducible refine ⟨rfl, rfl, ?_⟩))
local macro_rules | `(tactic| row_cond dI) => `(tactic| ((with_reducible refine' wi_range3 ?a ?b ?c ?d ?_); (case a => exact BltAt.gl (by assumption)); (case b => exact BltAt.mg (by assumption)); (case c => rfl); (case d => rfl)))
local macro_rules | `(tactic| row_cond dO) => `(tactic| first
  | ((with_reducible refine' wc_lenS ?a ?_); (case a => row_cond dsz)))
local macro_rules | `(tactic| row_cond dO) => `(tactic| first
  | ((with_reducible refine' wo_addS ?a ?_); (case a => row_cond dsz)))
local macro_rules | `(tactic| row_cond dO) => `(tactic| first
  | ((with_reducible refine' wo_addS2 ?a ?_); (case a => first | decide | omega))
  | ((with_reducible refine' wsl_txt2 ?a ?_); (case a => first | decide | omega))
  | ((with_reducible refine' wc_lenS2 ?a ?_); (case a => first | decide | omega)))
local macro_rules | `(tactic| row_cond dE) => `(tactic| first
  | ((with_reducible refine we_bm (T := "str") PySem.F.plainAttrs_str PySem.F.slot_str_index PySem.F.type_str_index ?a ?b ?c ?d ?e ?_); (case a => rfl); (case b => rfl); (case c => rfl); (case d => rfl); (case e => rfl))
  | ((with_reducible refine we_bm (T := "str") PySem.F.plainAttrs_str PySem.F.slot_str_join PySem.F.type_str_join ?a ?b ?c ?d ?e ?_); (case a => rfl); (case b => rfl); (case c => rfl); (case d => rfl); (case e => rfl))
  | ((with_reducible refine we_bm (T := "str") PySem.F.plainAttrs_str PySem.F.slot_str_startswith PySem.F.type_str_startswith ?a ?b ?c ?d ?e ?_); (case a => rfl); (case b => rfl); (case c => rfl); (case d => rfl); (case e => rfl)))
local macro_rules | `(tactic| row_cond dO) => `(tactic| first
  | (with_reducible refine wm_starts ?_))
local macro_rules | `(tactic| row_cond dret) => `(tactic| (with_reducible refine ws_ret ?_))
local macro_rules | `(tactic| row_cond dO) => `(tactic| first
  | ((with_reducible refine' wx_asK ?a ?b ?_); (case a => assumption); (case b => assumption))
  | ((with_reducible refine' wo_inAsK ?a ?_); (case a => assumption))
  | ((with_reducible refine' wo_ninAsK ?a ?_); (case a => assumption))
  | ((with_reducible refine' wset_asK ?a ?b ?_); (case a => assumption); (case b => row_cond dsz))
  | (with_reducible refine getD_asK ?_)
  | ((with_reducible refine' popD_asK ?b ?_); (case b => assumption))
  | ((with_reducible refine' wx_asT ?a ?b ?_); (case a => assumption); (case b => assumption))
  | ((with_reducible refine' wo_inAsT ?a ?_); (case a => assumption))
  | ((with_reducible refine' wo_ninAsT ?a ?_); (case a => assumption))
  | ((with_reducible refine' wset_asT ?a ?b ?_); (case a => assumption); (case b => row_cond dsz))
  | (with_reducible refine getD_asT ?_)
  | ((with_reducible refine' wc_sortedAs ?a ?_); (case a => assumption)))
local macro_rules | `(tactic| row_cond dO) => `(tactic| first
  | (with_reducible refine wc_lenAsK ?_)
  | (with_reducible refine wc_lenAsT ?_))
local macro_rules | `(tactic| row_cond dI) => `(tactic| first
  | (with_reducible refine wiv_asK ?_))

local macro_rules | `(tactic| row_cond disd) => `(tactic| first | assumption | exact isd_int _ _ | exact isd_str _ _ | exact isd_non _ | exact isd_mapL (by first | omega | assumption) (by decide) | exact isd_mapT (by first | omega | assumption) (by decide))
local macro_rules | `(tactic| row_cond dspec) => `(tactic| first
  | ((with_reducible refine' sp_law_next_go ?a ?b ?c ?_); (case a => assumption); (case b => first | decide | omega | (split <;> omega)); (case c => first | decide | omega | (split <;> omega)))
  | (with_reducible refine sp_law_mix_go ?_)
  | ((with_reducible refine' sp_law_is_self ?a ?_); (case a => row_cond disd))
  | ((with_reducible refine' sp_law_is_lst ?a ?_); (case a => row_cond disd)))
local macro_rules | `(tactic| row_cond dmore) => `(tactic| first
  | (with_reducible refine ⟨_, [], rfl, ?_⟩))

/-! ### a folder, rows of a file, pieces of a text -/
theorem once_perm {α : Type} [DecidableEq α] {xs ys : List α} (p : xs.Perm ys) : (onceL xs).Perm (onceL ys) := by
  rw [List.perm_ext_iff_of_nodup (onceL_nodup _) (onceL_nodup _)]
  intro a
  rw [mem_onceL, mem_onceL, p.mem_iff]
theorem sp_told_go {k : Str} {s : D} {rs : List D} {xs : List Int} {R : Mem} {Q : D → Mem → Prop} (hk : k ≠ "data") (h : RowsAt rs xs) (hz : xs.length ≤ 4000) (q : Q (.lst ((srt ltI (onceL xs)).map D.int)) []) : sp_law_told_refs [.tup [.str k, s, .tup rs]] [] R Q := ⟨k, s, _, rfl, rfl, .inr ⟨hk, rs, xs, rfl, h, hz, q⟩⟩
theorem rows_enc (E : List Ent) : RowsAt (E.map encE) (E.map (·.2)) := by
  refine ⟨by rw [List.length_map, List.length_map], fun i r x h1 h2 => ?_⟩
  rw [List.getElem?_map] at h1 h2
  obtain ⟨e, he, rfl⟩ := Option.map_eq_some_iff.mp h1
  rw [he] at h2
  cases h2
  exact ⟨_, _, rfl⟩
theorem sp_entries_go {p : Addr} {es : List Ent} {R : Mem} {Q : D → Mem → Prop} {j : Nat} [h : At R p (Tb es) j] (nd : (es.map (·.1)).Nodup) (hl : es.length ≤ 100) (q : Q (.tup ((srt (ltP2 ltS ltI) es).map encE)) []) : sp_law_entries [.ref p] [] R Q := ⟨p, es, rfl, rfl, List.mem_of_getElem? h.e, nd, hl, q⟩
theorem sp_find_go {k s : D} {es : List Ent} {w : Str} {R : Mem} {Q : D → Mem → Prop} (q : Q ((es.find? fun e => decide (e.1 = w)).elim .non fun e => .int e.2) []) : sp_find_entry [.tup [k, s, .tup (es.map encE)], .str w] [] R Q := ⟨k, s, es, w, rfl, rfl, q⟩
local macro_rules | `(tactic| row_cond dspec) => `(tactic| first
  | ((with_reducible refine' sp_entries_go ?a ?b ?_); (case a => assumption); (case b => first | assumption | omega))
  | (with_reducible refine sp_find_go ?_)
  | ((with_reducible refine' sp_told_go ?a ?b ?c ?_); (case a => decide); (case b => first | assumption | exact rows_enc _); (case c => first | assumption | (simp only [List.length_map, srt_len]; omega))))
def sp_law_folder : SpD := fun ds M R Q => ∃ (p : Addr) (es : List Ent) (ws : List Str) (n : Int), ds = [.ref p, .lst (ws.map D.str), .int n] ∧ M = [] ∧ (p, Tb es) ∈ R ∧ (es.map (·.1)).Nodup ∧ es.length ≤ 99 ∧ 0 < ws.length ∧ ws.length ≤ 100 ∧ (∀ w ∈ ws, w.length ≤ 8) ∧ Q (.bl true) []
theorem cal_law_folder {P : Program} {w : World} {K : PySem.W.Frag} {mg : Str → Option Value} {base : Heap} (T : Tx mg) (Da : DefAt K mg "_law_folder" s_law_folder) (c_law_entries : Cal P w K mg base 1 "_law_entries" sp_law_entries) (c_law_is : Cal P w K mg base 4 "_law_is" (sp_law_is 3)) (c_law_told_refs : Cal P w K mg base 5 "_law_told_refs" sp_law_told_refs) (c_find_entry : Cal P w K mg base 1 "find_entry" sp_find_entry) : Cal P w K mg base (6) "_law_folder" sp_law_folder := by
  refine calD (k := 5) Da sc_law_folder (fun f fd Fu => Fu.binds fun _ _ _ _ _ _ us hl => match us, hl with | [_, _, _], _ => rfl) (by row_cond dlen) (fun X F hX nm ds M R Q hS => ?_)
  have hst := hX.std
  have n_table : NameAt X 0 "table" := nm.name rfl (.inr rfl) (by decide) (by decide)
  have s_table : StoreAt X 0 "table" := nm.store rfl (.inr rfl)
  have n_words : NameAt X 1 "words" := nm.name rfl (.inl rfl) (by decide) (by decide)
  have s_words : StoreAt X 1 "words" := nm.store rfl (.inl rfl)
  have n_serial : NameAt X 2 "serial" := nm.name rfl (.inl rfl) (by decide) (by decide)
  have s_serial : StoreAt X 2 "serial" := nm.store rfl (.inl rfl)
  have n_record : NameAt X 3 "record" := nm.name rfl (.inl rfl) (by decide) (by decide)
  have s_record : StoreAt X 3 "record" := nm.store rfl (.inl rfl)
  have n_word : NameAt X 4 "word" := nm.name rfl (.inl rfl) (by decide) (by decide)
  have s_word : StoreAt X 4 "word" := nm.store rfl (.inl rfl)
  have g_law_entries : Gl X "_law_entries" := nm.gl rfl
  have g_law_is : Gl X "_law_is" := nm.gl rfl
  have g_law_told_refs : Gl X "_law_told_refs" := nm.gl rfl
  have b_sorted : BltAt X "sorted" (.builtin "sorted") := nm.blt hX rfl T.z_sorted bo_sorted (by decide) (by decide)
  have b_set : BltAt X "set" (.type "set") := nm.blt hX rfl T.z_set bo_set (by decide) (by decide)
  have g_find_entry : Gl X "find_entry" := nm.gl rfl
  obtain ⟨p, es, ws, n, rfl, rfl, hm, nd, hl, hw0, hw1, hw, hq⟩ := hS
  obtain ⟨j, hj⟩ := List.getElem?_of_mem hm
  haveI : At R p (Tb es) j := ⟨hj⟩
  haveI : SeeK [] R (.ref p) (asK gW D.int es) := ⟨.rd hm⟩
  have hl2 : es.length ≤ 100 := by omega
  row_cond dstart
  refine wss_cons ?_
  row_cond gon
  refine ws_mid (fun Γ => ∃ M1, Γ = ⟨[some (.ref p), some (.lst (ws.map D.str)), some (.int n), some (.tup [.str "folder", .int n, .tup ((srt (ltP2 ltS ltI) es).map encE)]), none], M1, R⟩) ?_ ?_
  · row_cond go
    refine we_lockR (c := Tb es) p trivial fun F' lk => ?_
    refine we_lc' hst (own := [("word", 4)]) (nm.blk (by decide +kernel)) (fun _ => rfl) rfl ?_
    row_cond go
    refine lc_name hX (by rw [nm.N]; rfl) (.inl rfl) (fun i acc M' => acc = ((es.take i).map fun e => D.int e.2) ∧ M' = []) ⟨rfl, rfl⟩ (fun _ _ _ _ _ => rfl) (fun a i x acc M' hx hW => ?_) (fun a acc M' hW => ?_)
    · obtain ⟨rfl, rfl⟩ := hW
      rw [List.map_map, List.getElem?_map] at hx
      obtain ⟨e, he, rfl⟩ := Option.map_eq_some_iff.mp hx
      have hg : getE es e.1 = some e.2 := getE_of nd (List.mem_of_getElem? he)
      refine put_go (fun X' hb => ?_)
      show WE X' F' _ ⟨[some (.ref p), some (.lst (ws.map D.str)), some (.int n), some (.tup [.str "folder", .int n, .tup ((srt (ltP2 ltS ltI) es).map encE)]), some (.str e.1)], _, R⟩ _
      have hX_X' := hb.inn hX
      have hst_X' := hX_X'.std
      have n_word_X' : NameAt X' 4 "word" := hb.name (by rw [nm.N]; rfl) (by first | exact .inl rfl | exact .inr (.inl rfl) | exact .inr (.inr rfl)) (by decide) (by decide)
      have s_word_X' : StoreAt X' 4 "word" := hb.store (by rw [nm.N]; rfl) (by first | exact .inl rfl | exact .inr rfl)
      have n_table_X' : NameAt X' 0 "table" := hb.name (by rw [nm.N]; rfl) (by first | exact .inl rfl | exact .inr (.inl rfl) | exact .inr (.inr rfl)) (by decide) (by decide)
      row_cond go
      refine lcend_id (by
        rw [List.length_map, List.length_take]
        show _ < 16777216
        omega) ⟨?_, rfl⟩
      rw [List.take_add_one, he, List.map_append]
      rfl
    · obtain ⟨rfl, rfl⟩ := hW
      rw [List.length_map, List.length_map, List.take_length]
      rw [show (es.map fun e => D.int e.2) = (es.map (·.2)).map D.int by rw [List.map_map]; rfl]
      refine ⟨_, _, rfl, ?_⟩
      refine wsorted_go (f := D.int) (by rw [List.length_map]; omega) fun q => ?_
      have hI : DOrd D.int ltI 0 := inferInstance
      have heq : srt ltI (onceL ((srt (ltP2 ltS ltI) es).map (·.2))) = srt ltI (onceL (es.map (·.2))) := hI.srt_eq (once_perm (srt_perm.map _))
      rw [heq]
      have hlen : (srt ltI (onceL (es.map (·.2)))).length ≤ 16777216 := by
        rw [srt_len]
        have := onceL_len (es.map (·.2))
        rw [List.length_map] at this
        omega
      row_cond go
      exact ⟨_, rfl⟩
  rintro Γ ⟨M1, rfl⟩
  refine wss_weak (Γ' := ⟨[some (.ref p), some (.lst (ws.map D.str)), some (.int n), some (.tup [.str "folder", .int n, .tup ((srt (ltP2 ltS ltI) es).map encE)]), none], [], R⟩) ⟨.refl _, List.nil_sublist _, rfl⟩ ?_
  row_cond gon
  refine ws_for hst (fun _ => rfl) ?_
  haveI : SzLe "0" 1 := ⟨by decide +kernel⟩
  row_cond go
  · rename_i y hy
    haveI : SzLe y 8 := ⟨hw y (List.mem_of_getElem? hy)⟩
    row_cond go
    obtain ⟨pre, z, ez⟩ : ∃ pre z, ws = pre ++ [z] := ⟨ws.dropLast, ws.getLast (List.ne_nil_of_length_pos hw0), (List.dropLast_concat_getLast _).symm⟩
    haveI : SzLe z 8 := ⟨hw z (by rw [ez]; simp)⟩
    refine wx_mapN (y := z) (by rw [ez]; exact atI_last _ _) ?_
    row_cond go
    rename_i q1 q2
    refine ⟨fun i Γ => ∃ u, Γ = ⟨[some (.ref p), some (.lst (ws.map D.str)), some (.int n), some (.tup [.str "folder", .int n, .tup ((srt (ltP2 ltS ltI) es).map encE)]), u], [(q2, .lst (ws.map D.str ++ [.str (Txt.slice y none (some 7) ++ "0"), .str (Txt.slice z none (some 1))])), (q1, .lst [.str (Txt.slice y none (some 7) ++ "0"), .str (Txt.slice z none (some 1))])], R⟩, ⟨_, rfl⟩, ?_, ?_, ?_⟩
    · rintro i Γ ⟨u, rfl⟩
      exact (inferInstance : SeeL _ _ _ _).see
    · rintro i x Γ hx ⟨u, rfl⟩
      obtain ⟨w, rfl⟩ : ∃ w : Str, x = .str w := by
        rcases List.mem_append.mp (List.mem_of_getElem? hx) with h | h
        · obtain ⟨w, _, rfl⟩ := List.mem_map.mp h
          exact ⟨w, rfl⟩
        · rcases List.mem_cons.mp h with rfl | h
          · exact ⟨_, rfl⟩
          · exact ⟨_, List.mem_singleton.mp h⟩
      have hf := find_srt nd w
      have hi : Isd 3 (((getE es w).map D.int).getD .non) := by
        cases getE es w with
        | none => exact isd_non _
        | some i => exact isd_int _ _
      row_cond go
      rw [hf]
      row_cond go
      exact ⟨_, rfl⟩
    · rintro Γ ⟨u, rfl⟩
      row_cond go
      exact rt0 hq

end K18


namespace K18
open PySem PySem.Spec PyProof.Rows L2 DL
local macro_rules | `(tactic| row_cond dcall) => `(tactic| first
  | ((with_reducible refine' we_callX (x := "chunks") ?c ?x ?j ?g ?d ?e ?p ?_); (case c => assumption); (case x => assumption); (case j => first | decide | exact Nat.le_refl _ | omega); (case g => assumption); (case d => decide); (case e => rfl); (case p => rfl))
  | ((with_reducible refine' we_callK (x := "chunks") ?c ?x ?j ?g ?a ?k ?d ?e ?p ?_); (case c => assumption); (case x => assumption); (case j => first | decide | exact Nat.le_refl _ | omega); (case g => assumption); (case a => rfl); (case k => rfl); (case d => decide); (case e => rfl); (case p => rfl))
  | ((with_reducible refine' we_call (x := "refs") ?c ?x ?j ?g ?d ?e ?p ?_); (case c => assumption); (case x => assumption); (case j => first | decide | exact Nat.le_refl _ | omega); (case g => assumption); (case d => decide); (case e => rfl); (case p => rfl))
  | ((with_reducible refine' we_call (x := "find_entry") ?c ?x ?j ?g ?d ?e ?p ?_); (case c => assumption); (case x => assumption); (case j => first | decide | exact Nat.le_refl _ | omega); (case g => assumption); (case d => decide); (case e => rfl); (case p => rfl))
  | ((with_reducible refine' we_call (x := "with_entry") ?c ?x ?j ?g ?d ?e ?p ?_); (case c => assumption); (case x => assumption); (case j => first | decide | exact Nat.le_refl _ | omega); (case g => assumption); (case d => decide); (case e => rfl); (case p => rfl))
  | ((with_reducible refine' we_call (x := "without_entry") ?c ?x ?j ?g ?d ?e ?p ?_); (case c => assumption); (case x => assumption); (case j => first | decide | exact Nat.le_refl _ | omega); (case g => assumption); (case d => decide); (case e => rfl); (case p => rfl))
  | ((with_reducible refine' we_call (x := "_law_mix") ?c ?x ?j ?g ?d ?e ?p ?_); (case c => assumption); (case x => assumption); (case j => first | decide | exact Nat.le_refl _ | omega); (case g => assumption); (case d => decide); (case e => rfl); (case p => rfl))
  | ((with_reducible refine' we_call (x := "_law_start") ?c ?x ?j ?g ?d ?e ?p ?_); (case c => assumption); (case x => assumption); (case j => first | decide | exact Nat.le_refl _ | omega); (case g => assumption); (case d => decide); (case e => rfl); (case p => rfl))
  | ((with_reducible refine' we_call1 (x := "_law_next") ?c ?x ?j ?g ?d ?e ?p ?_); (case c => assumption); (case x => assumption); (case j => first | decide | exact Nat.le_refl _ | omega); (case g => assumption); (case d => decide); (case e => rfl); (case p => rfl))
  | ((with_reducible refine' we_call (x := "_law_is") ?c ?x ?j ?g ?d ?e ?p ?_); (case c => assumption); (case x => assumption); (case j => first | decide | exact Nat.le_refl _ | omega); (case g => assumption); (case d => decide); (case e => rfl); (case p => rfl))
  | ((with_reducible refine' we_call1 (x := "_law_names") ?c ?x ?j ?g ?d ?e ?p ?_); (case c => assumption); (case x => assumption); (case j => first | decide | exact Nat.le_refl _ | omega); (case g => assumption); (case d => decide); (case e => rfl); (case p => rfl))
  | ((with_reducible refine' we_call1 (x := "_law_text") ?c ?x ?j ?g ?d ?e ?p ?_); (case c => assumption); (case x => assumption); (case j => first | decide | exact Nat.le_refl _ | omega); (case g => assumption); (case d => decide); (case e => rfl); (case p => rfl))
  | ((with_reducible refine' we_call (x := "_law_entries") ?c ?x ?j ?g ?d ?e ?p ?_); (case c => assumption); (case x => assumption); (case j => first | decide | exact Nat.le_refl _ | omega); (case g => assumption); (case d => decide); (case e => rfl); (case p => rfl))
  | ((with_reducible refine' we_call (x := "_law_told_refs") ?c ?x ?j ?g ?d ?e ?p ?_); (case c => assumption); (case x => assumption); (case j => first | decide | exact Nat.le_refl _ | omega); (case g => assumption); (case d => decide); (case e => rfl); (case p => rfl))
  | ((with_reducible refine' we_call (x := "_law_folder") ?c ?x ?j ?g ?d ?e ?p ?_); (case c => assumption); (case x => assumption); (case j => first | decide | exact Nat.le_refl _ | omega); (case g => assumption); (case d => decide); (case e => rfl); (case p => rfl))
  | ((with_reducible refine' we_call1 (x := "_law_file") ?c ?x ?j ?g ?d ?e ?p ?_); (case c => assumption); (case x => assumption); (case j => first | decide | exact Nat.le_refl _ | omega); (case g => assumption); (case d => decide); (case e => rfl); (case p => rfl))
  | ((with_reducible refine' we_call (x := "_law_pieces") ?c ?x ?j ?g ?d ?e ?p ?_); (case c => assumption); (case x => assumption); (case j => first | decide | exact Nat.le_refl _ | omega); (case g => assumption); (case d => decide); (case e => rfl); (case p => rfl))
  | ((with_reducible refine' we_call (x := "law") ?c ?x ?j ?g ?d ?e ?p ?_); (case c => assumption); (case x => assumption); (case j => first | decide | exact Nat.le_refl _ | omega); (case g => assumption); (case d => decide); (case e => rfl); (case p => rfl)))
/-! the steps: one line a construct -/
local macro_rules | `(tactic| row_cond dlen) => `(tactic| (intro ds M R Q h; first | (obtain ⟨h1, _⟩ := h; subst h1; rfl) | (obtain ⟨_, h1, _⟩ := h; subst h1; rfl) | (obtain ⟨_, _, h1, _⟩ := h; subst h1; rfl) | (obtain ⟨_, _, _, h1, _⟩ := h; subst h1; rfl) | (obtain ⟨_, _, _, _, h1, _⟩ := h; subst h1; rfl) | (obtain ⟨_, _, _, _, _, h1, _⟩ := h; subst h1; rfl) | (obtain ⟨_, _, _, _, _, _, h1, _⟩ := h; subst h1; rfl) | (obtain ⟨_, _, _, _, _, _, _, h1, _⟩ := h; subst h1; rfl) | (obtain ⟨_, _, _, _, _, _, _, _, h1, _⟩ := h; subst h1; rfl) | (obtain ⟨_, _, _, _, _, _, _, _, _, h1, _⟩ := h; subst h1; rfl) | (obtain ⟨_, _, _, _, _, _, _, _, _, _, h1, _⟩ := h; subst h1; rfl) | (obtain ⟨_, _, _, _, _, _, _, _, _, _, _, h1, _⟩ := h; subst h1; rfl) | (obtain ⟨_, _, _, _, _, _, _, _, _, _, _, _, h1, _⟩ := h; subst h1; rfl)))
local macro_rules | `(tactic| row_cond dsz) => `(tactic| first | exact Nat.le_of_ble_eq_true rfl | assumption | (simp only [List.length_map, List.length_cons, List.length_append, List.length_nil, List.length_reverse, List.length_take, List.length_drop, PySem.sizeLine]; omega))
/- expressions -/
local macro_rules | `(tactic| row_cond dE) => `(tactic| first
  | ((with_reducible refine' we_name ?n ?e ?_); (case n => assumption); (case e => rfl))
  | (with_reducible refine we_int ?_)
  | (with_reducible refine we_bl ?_)
  | (with_reducible refine we_str ?_)
  | (with_reducible refine we_non ?_)
  | (with_reducible refine we_bin ?_)
  | ((with_reducible refine' we_cmp ?n ?_); (case n => rfl))
  | (with_reducible refine we_slice ?_)
  | (with_reducible refine we_rev ?_)
  | ((with_reducible refine' we_ix ?n ?_); (case n => exact fun _ _ => rfl))
  | (with_reducible refine we_tupV ?_)
  | (with_reducible refine we_lstV ?_)
  | ((with_reducible refine' we_blt ?b ?n ?m ?_); (case b => assumption); (case n => rfl); (case m => rfl))
  | ((with_reducible refine' we_typ ?b ?n ?m ?_); (case b => assumption); (case n => rfl); (case m => rfl))
  | ((with_reducible refine' we_tyName ?b ?_); (case b => assumption))
  | (with_reducible refine we_one ?_)
  | (with_reducible refine we_and ?_)
  | (with_reducible refine we_or ?_)
  | (with_reducible refine we_not ?_)
  | (with_reducible refine we_ifexp ?_)
  | ((with_reducible refine' we_un ?n ?_); (case n => exact fun z => nomatch z))
  | row_cond dcall
  | ((with_reducible refine we_bm (T := "list") PySem.F.plainAttrs_list PySem.F.slot_list_append PySem.F.type_list_append ?a ?b ?c ?d ?e ?_); (case a => rfl); (case b => rfl); (case c => rfl); (case d => rfl); (case e => rfl))
  | ((with_reducible refine we_bm0 (T := "list") PySem.F.plainAttrs_list PySem.F.slot_list_pop PySem.F.type_list_pop ?a ?b ?_); (case a => rfl); (case b => rfl))
  | ((with_reducible refine we_bm (T := "list") PySem.F.plainAttrs_list PySem.F.slot_list_extend PySem.F.type_list_extend ?a ?b ?c ?d ?e ?_); (case a => rfl); (case b => rfl); (case c => rfl); (case d => rfl); (case e => rfl)))
/- tests -/
local macro_rules | `(tactic| row_cond dT) => `(tactic| first
  | ((with_reducible refine' wt_cmp ?n ?_); (case n => rfl))
  | (with_reducible refine wt_not ?_)
  | (with_reducible refine wt_bool ?_)
  | (with_reducible refine ww_and1 ?_)
  | (with_reducible refine ww_or1 ?_)
  | (with_reducible refine ww_and ?_)
  | (with_reducible refine ww_or ?_)
  | ((with_reducible refine' wt_val ?n ?_); (case n => exact fun _ => rfl)))
/- statements -/
local macro_rules | `(tactic| row_cond dS) => `(tactic| first
  | (with_reducible refine wss_cons ?_)
  | (with_reducible refine wss_nil ?_)
  | ((with_reducible refine' ws_set ?a ?n ?h ?_); (case a => assumption); (case n => assumption); (case h => rfl))
  | ((with_reducible refine' ws_sub ?h ?_); (case h => rfl))
  | ((with_reducible refine' ws_asg ?a ?n ?h ?_); (case a => rfl); (case n => rfl); (case h => rfl))
  | (with_reducible refine ws_if ?_)
  | row_cond dret
  | ((with_reducible refine' ws_expr ?h ?_); (case h => rfl))
  | (with_reducible refine ws_pass ?_)
  | (with_reducible refine ws_break ?_)
  | (with_reducible refine ws_continue ?_)
  | (with_reducible refine ws_retN ?_))
local macro_rules | `(tactic| row_cond dSn) => `(tactic| first
  | (with_reducible refine wss_cons ?_)
  | (with_reducible refine wss_nil ?_)
  | ((with_reducible refine' ws_set ?a ?n ?h ?_); (case a => assumption); (case n => assumption); (case h => rfl))
  | ((with_reducible refine' ws_sub ?h ?_); (case h => rfl))
  | ((with_reducible refine' ws_asg ?a ?n ?h ?_); (case a => rfl); (case n => rfl); (case h => rfl))
  | row_cond dret
  | ((with_reducible refine' ws_expr ?h ?_); (case h => rfl))
  | (with_reducible refine ws_pass ?_)
  | (with_reducible refine ws_break ?_)
  | (with_reducible refine ws_continue ?_)
  | (with_reducible refine ws_retN ?_))
/- arguments, targets, values -/
local macro_rules | `(tactic| row_cond dV) => `(tactic| first
  | (with_reducible refine wa_nil ?_)
  | ((with_reducible refine' wa_cons ?n ?_); (case n => rfl))
  | (with_reducible refine wav_nil ?_)
  | ((with_reducible refine' wav_cons ?n ?_); (case n => rfl))
  | (with_reducible refine put_go ?_)
  | (with_reducible refine fz_lst ?_)
  | (with_reducible refine fz_tup ?_)
  | (with_reducible refine fz_id ?_)
  | (with_reducible refine own0_go ?_)
  | (with_reducible refine own1_go ?_)
  | (with_reducible refine app_go ?_)
  | (with_reducible refine mset_go ?_)
  | ((with_reducible refine' wg_name ?a ?n ?_); (case a => assumption); (case n => assumption))
  | ((with_reducible refine' wg_tup ?a ?n ?h ?_); (case a => assumption); (case n => rfl); (case h => rfl))
  | (with_reducible refine wgs_nil ?_)
  | ((with_reducible refine' wgs_cons ?n ?_); (case n => rfl))
  | (with_reducible refine wpt_none ?_)
  | (with_reducible refine wpt_some ?_)
  | ((with_reducible refine' wset_list ?n ?_); (case n => first | rfl | row_cond dix)))
/- what is walked -/
local macro_rules | `(tactic| row_cond dI) => `(tactic| first
  | ((with_reducible refine' wi_range1 ?a ?b ?c ?_); (case a => exact BltAt.gl (by assumption)); (case b => exact BltAt.mg (by assumption)); (case c => rfl))
  | ((with_reducible refine' wi_range2 ?a ?b ?c ?d ?_); (case a => exact BltAt.gl (by assumption)); (case b => exact BltAt.mg (by assumption)); (case c => rfl); (case d => rfl))
  | (with_reducible refine wi_val ?_)
  | (with_reducible refine wiv_list ?_)
  | (with_reducible refine wiv_tup ?_)
  | ((with_reducible refine' wgc_name ?a ?n ?h ?_); (case a => assumption); (case n => assumption); (case h => decide))
  | ((with_reducible refine' wgc_tup ?a ?n ?h ?_); (case a => assumption); (case n => rfl); (case h => rfl))
  | (with_reducible refine wgcs_nil ?_)
  | ((with_reducible refine' wgcs_cons ?n ?_); (case n => rfl))
  | (with_reducible refine wts_nil ?_)
  | (with_reducible refine wts_one ?_))
/- operations by values -/
local macro_rules | `(tactic| row_cond dO) => `(tactic| first
  | (with_reducible refine wo_add ?_)
  | (with_reducible refine wo_sub ?_)
  | ((with_reducible refine' wo_mulS ?n ?_); (case n => first | exact .inr ⟨by decide, by decide⟩ | exact .inl ⟨by decide, by decide⟩ | exact .inr ⟨by omega, by omega⟩ | exact .inl ⟨by omega, by omega⟩))
  | ((with_reducible refine' wo_fdiv ?n ?m ?_); (case n => first | decide | omega); (case m => first | decide | row_cond dlog))
  | ((with_reducible refine' wo_mod ?n ?_); (case n => first | decide | omega))
  | (with_reducible refine wo_powL ?_)
  | ((with_reducible refine' wo_pow ?n ?_); (case n => exact ⟨by decide, by decide, by decide⟩))
  | (with_reducible refine wo_xor ?_)
  | (with_reducible refine wo_lt ?_)
  | (with_reducible refine wo_le ?_)
  | (with_reducible refine wo_gt ?_)
  | (with_reducible refine wo_ge ?_)
  | (with_reducible refine wo_eqI ?_)
  | (with_reducible refine wo_neI ?_)
  | (with_reducible refine wo_eqS ?_)
  | (with_reducible refine wo_neS ?_)
  | (with_reducible refine wo_isN ?_)
  | (with_reducible refine wo_isnotN ?_)
  | (with_reducible refine wu_neg ?_)
  | (with_reducible refine wc_int ?_)
  | (with_reducible refine wc_intB ?_)
  | (with_reducible refine wc_abs ?_)
  | ((with_reducible refine' wc_max2 ?a ?_); (case a => assumption))
  | ((with_reducible refine' wc_min2 ?a ?_); (case a => assumption))
  | (with_reducible refine wc_list ?_)
  | (with_reducible refine wc_tuple ?_)
  | ((with_reducible refine' wc_lenS ?a ?_); (case a => row_cond dsz))
  | (with_reducible refine wc_lenM ?_)
  | (with_reducible refine wc_len ?_)
  | (with_reducible refine wc_isK ?_)
  | ((with_reducible refine' wc_allM ?a ?_); (case a => assumption))
  | ((with_reducible refine' wc_anyM ?a ?_); (case a => assumption))
  | ((with_reducible refine' wc_sum ?a ?_); (case a => assumption))
  | ((with_reducible refine' wx_list ?n ?_); (case n => row_cond dat))
  | ((with_reducible refine' wx_map ?a ?b ?_); (case a => omega); (case b => omega))
  | ((with_reducible refine' wx_seq ?a ?b ?_); (case a => omega); (case b => omega))
  | ((with_reducible refine' wx_tup ?n ?_); (case n => row_cond dat))
  | (with_reducible refine wsl_listM ?_)
  | (with_reducible refine wsl_list ?_)
  | (with_reducible refine wrev_goM ?_)
  | (with_reducible refine wrev_go ?_)
  | ((with_reducible refine' wo_catM ?n ?_); (case n => row_cond dsz))
  | ((with_reducible refine' wo_cat ?n ?_); (case n => row_cond dsz))
  | ((with_reducible refine' wm_append ?n ?_); (case n => row_cond dsz)))
local macro_rules | `(tactic| row_cond dat) => `(tactic| rfl)
local macro_rules | `(tactic| row_cond dix) => `(tactic| rfl)
local macro_rules | `(tactic| row_cond dlog) => `(tactic| first | decide | exact log_small (by omega) (by omega))
/- what stands between -/
local macro_rules | `(tactic| row_cond dQ) => `(tactic| first
  | (with_reducible refine ⟨_, rfl, ?_⟩)
  | (with_reducible refine br_true ?_)
  | (with_reducible refine br_false ?_)
  | (with_reducible refine rb_true ?_)
  | (with_reducible refine rb_false ?_)
  | ((with_reducible refine' br_dec ?_ ?_) <;> intro _)
  | ((with_reducible refine' br_ndec ?_ ?_) <;> intro _)
  | ((with_reducible refine' rb_dec ?_ ?_) <;> intro _)
  | ((with_reducible refine' rb_ndec ?_ ?_) <;> intro _)
  | (refine br_is rfl ?_)
  | (refine br_isnot rfl ?_)
  | (refine rb_is rfl ?_)
  | (refine rb_isnot rfl ?_)
  | ((with_reducible refine' ⟨⟨?a, ?b⟩, ?_⟩); (case a => omega); (case b => omega))
  | ((with_reducible refine' ⟨⟨?a, ?b, ?c, ?d⟩, ?_⟩); (case a => omega); (case b => omega); (case c => omega); (case d => omega))
  | (with_reducible refine app_go ?_)
  | (with_reducible refine ⟨tym_list, ?_⟩)
  | (with_reducible refine ⟨tym_str, ?_⟩)
  | ((with_reducible refine ⟨?n, ?_⟩); (case n => (show _ ≤ PySem.sizeLine); row_cond dsz))
  | (with_reducible intro _))
local macro_rules | `(tactic| row_cond dstart) => `(tactic| simp only [startD, List.map_cons, List.map_nil, List.length_cons, List.length_nil, List.cons_append, List.nil_append, Nat.zero_add, Nat.reduceAdd, Nat.reduceSub, List.replicate_succ, List.replicate_zero])
local macro_rules | `(tactic| row_cond d) => `(tactic| first | row_cond dE | row_cond dV | row_cond dO | row_cond dT | row_cond dS | row_cond dI | row_cond dmore | row_cond dspec | row_cond dQ)
local macro_rules | `(tactic| row_cond dn) => `(tactic| first | row_cond dE | row_cond dV | row_cond dO | row_cond dT | row_cond dSn | row_cond dI | row_cond dmore | row_cond dspec | row_cond dQ)
local macro_rules | `(tactic| row_cond gon) => `(tactic| repeat' (row_cond dn))
local macro_rules | `(tactic| row_cond go) => `(tactic| repeat' (row_cond d))
/- the later parts of the layer -/
local macro_rules | `(tactic| row_cond dE) => `(tactic| first
  | ((with_reducible refine' we_sortedSet ?a ?b ?c ?d ?e ?_); (case a => assumption); (case b => assumption); (case c => assumption); (case d => rfl); (case e => rfl))
  | ((with_reducible refine' we_get2 ?a ?b ?_); (case a => assumption); (case b => exact ⟨rfl, rfl, rfl, rfl⟩))
  | ((with_reducible refine' we_get1 ?a ?b ?_); (case a => assumption); (case b => exact ⟨rfl, rfl, rfl, rfl⟩))
  | ((with_reducible refine' we_pop1 ?b ?_); (case b => exact ⟨rfl, rfl, rfl, rfl⟩)))
local macro_rules | `(tactic| row_cond dO) => `(tactic| first
  | ((with_reducible refine' wc_sorted ?a ?b ?c ?_); (case a => assumption); (case b => decide); (case c => first | exact fun _ _ => trivial | assumption))
  | ((with_reducible refine' wsorted_go ?a ?_); (case a => first | assumption | omega))
  | ((with_reducible refine' wo_inD ?a ?b ?_); (case a => assumption); (case b => decide))
  | ((with_reducible refine' wo_ninD ?a ?b ?_); (case a => assumption); (case b => decide))
  | (with_reducible refine getD_K ?_)
  | (with_reducible refine getD_T ?_)
  | ((with_reducible refine' wsl_txt ?a ?_); (case a => row_cond dsz))
  | ((with_reducible refine' wx_strN ?a ?b ?c ?_); (case a => row_cond dsz); (case b => omega); (case c => first | omega | (simp only [PySem.Str.length]; omega)))
  | (with_reducible refine ⟨isDD_K, ?_⟩)
  | (with_reducible refine ⟨isDD_T, ?_⟩))
local macro_rules | `(tactic| row_cond dO) => `(tactic| first
  | ((with_reducible refine' wm_appendM ?n ?_); (case n => row_cond dsz)))
local macro_rules | `(tactic| row_cond dE) => `(tactic| ((with_reducible refine' we_con ?c ?_); (case c => assumption)))
local macro_rules | `(tactic| row_cond dV) => `(tactic| first
  | (with_reducible refine wk_nil ?_)
  | (with_reducible refine wk_cons ?_)
  | (with_reducible refine ⟨rfl, rfl, ?_⟩))
local macro_rules | `(tactic| row_cond dI) => `(tactic| ((with_reducible refine' wi_range3 ?a ?b ?c ?d ?_); (case a => exact BltAt.gl (by assumption)); (case b => exact BltAt.mg (by assumption)); (case c => rfl); (case d => rfl)))
local macro_rules | `(tactic| row_cond dO) => `(tactic| first
  | ((with_reducible refine' wc_lenS ?a ?_); (case a => row_cond dsz)))
local macro_rules | `(tactic| row_cond dO) => `(tactic| first
  | ((with_reducible refine' wo_addS ?a ?_); (case a => row_cond dsz)))
local macro_rules | `(tactic| row_cond dO) => `(tactic| first
  | ((with_reducible refine' wo_addS2 ?a ?_); (case a => first | decide | omega))
  | ((with_reducible refine' wsl_txt2 ?a ?_); (case a => first | decide | omega))
  | ((with_reducible refine' wc_lenS2 ?a ?_); (case a => first | decide | omega)))
local macro_rules | `(tactic| row_cond dE) => `(tactic| first
  | ((with_reducible refine we_bm (T := "str") PySem.F.plainAttrs_str PySem.F.slot_str_index PySem.F.type_str_index ?a ?b ?c ?d ?e ?_); (case a => rfl); (case b => rfl); (case c => rfl); (case d => rfl); (case e => rfl))
  | ((with_reducible refine we_bm (T := "str") PySem.F.plainAttrs_str PySem.F.slot_str_join PySem.F.type_str_join ?a ?b ?c ?d ?e ?_); (case a => rfl); (case b => rfl); (case c => rfl); (case d => rfl); (case e => rfl))
  | ((with_reducible refine we_bm (T := "str") PySem.F.plainAttrs_str PySem.F.slot_str_startswith PySem.F.type_str_startswith ?a ?b ?c ?d ?e ?_); (case a => rfl); (case b => rfl); (case c => rfl); (case d => rfl); (case e => rfl)))
local macro_rules | `(tactic| row_cond dO) => `(tactic| first
  | (with_reducible refine wm_starts ?_))
local macro_rules | `(tactic| row_cond dret) => `(tactic| (with_reducible refine ws_ret ?_))
local macro_rules | `(tactic| row_cond dO) => `(tactic| first
  | ((with_reducible refine' wx_asK ?a ?b ?_); (case a => assumption); (case b => assumption))
  | ((with_reducible refine' wo_inAsK ?a ?_); (case a => assumption))
  | ((with_reducible refine' wo_ninAsK ?a ?_); (case a => assumption))
  | ((with_reducible refine' wset_asK ?a ?b ?_); (case a => assumption); (case b => row_cond dsz))
  | (with_reducible refine getD_asK ?_)
  | ((with_reducible refine' popD_asK ?b ?_); (case b => assumption))
  | ((with_reducible refine' wx_asT ?a ?b ?_); (case a => assumption); (case b => assumption))
  | ((with_reducible refine' wo_inAsT ?a ?_); (case a => assumption))
  | ((with_reducible refine' wo_ninAsT ?a ?_); (case a => assumption))
  | ((with_reducible refine' wset_asT ?a ?b ?_); (case a => assumption); (case b => row_cond dsz))
  | (with_reducible refine getD_asT ?_)
  | ((with_reducible refine' wc_sortedAs ?a ?_); (case a => assumption)))
local macro_rules | `(tactic| row_cond dO) => `(tactic| first
  | (with_reducible refine wc_lenAsK ?_)
  | (with_reducible refine wc_lenAsT ?_))
local macro_rules | `(tactic| row_cond dI) => `(tactic| first
  | (with_reducible refine wiv_asK ?_))

local macro_rules | `(tactic| row_cond disd) => `(tactic| first | assumption | exact isd_int _ _ | exact isd_str _ _ | exact isd_non _ | exact isd_mapL (by first | omega | assumption) (by decide) | exact isd_mapT (by first | omega | assumption) (by decide))
local macro_rules | `(tactic| row_cond dspec) => `(tactic| first
  | ((with_reducible refine' sp_law_next_go ?a ?b ?c ?_); (case a => assumption); (case b => first | decide | omega | (split <;> omega)); (case c => first | decide | omega | (split <;> omega)))
  | (with_reducible refine sp_law_mix_go ?_)
  | ((with_reducible refine' sp_law_is_self ?a ?_); (case a => row_cond disd))
  | ((with_reducible refine' sp_law_is_lst ?a ?_); (case a => row_cond disd)))
local macro_rules | `(tactic| row_cond dmore) => `(tactic| first
  | (with_reducible refine ⟨_, [], rfl, ?_⟩))

theorem wk_none {sl : List (Option D)} {M R : Mem} : Wk ⟨sl, M, R⟩ ⟨sl, [], R⟩ := ⟨.refl _, List.nil_sublist _, rfl⟩
/-! ### rows of a file, pieces of a text -/
abbrev Rw := Int × Int × Int × Int
abbrev encR (r : Rw) : D := .tup [.int r.1, .int r.2.1, .int r.2.2.1, .int r.2.2.2]
instance EncAs.row {a b c d : Int} : EncAs encR (.tup [.int a, .int b, .int c, .int d]) (a, b, c, d) := ⟨rfl⟩
theorem rows_row (L : List Rw) : RowsAt (L.map encR) (L.map (·.2.1)) := by
  refine ⟨by rw [List.length_map, List.length_map], fun i r x h1 h2 => ?_⟩
  rw [List.getElem?_map] at h1 h2
  obtain ⟨e, he, rfl⟩ := Option.map_eq_some_iff.mp h1
  rw [he] at h2
  cases h2
  exact ⟨_, _, rfl⟩
local macro_rules | `(tactic| row_cond dspec) => `(tactic| first
  | ((with_reducible refine' sp_told_go ?a ?b ?c ?_); (case a => decide); (case b => first | assumption | exact rows_row _); (case c => first | assumption | (simp only [List.length_map, srt_len]; omega))))
def sp_law_file : SpD := fun ds M R Q => ∃ (p : Addr) (st : D) (n : Int), ds = [.ref p, .int n] ∧ M = [(p, st)] ∧ DrawSt st ∧ ∀ st', DrawSt st' → Q (.bl true) [(p, st')]
theorem cal_law_file {P : Program} {w : World} {K : PySem.W.Frag} {mg : Str → Option Value} {base : Heap} (T : Tx mg) (Da : DefAt K mg "_law_file" s_law_file) (c_law_next : Cal P w K mg base 2 "_law_next" sp_law_next) (c_law_is : Cal P w K mg base 4 "_law_is" (sp_law_is 3)) (c_law_told_refs : Cal P w K mg base 5 "_law_told_refs" sp_law_told_refs) : Cal P w K mg base (6) "_law_file" sp_law_file := by
  refine calD (k := 5) Da sc_law_file (fun f fd Fu => Fu.binds fun _ _ _ _ _ _ us hl => match us, hl with | [_, _], _ => rfl) (by row_cond dlen) (fun X F hX nm ds M R Q hS => ?_)
  have hst := hX.std
  have n_state : NameAt X 0 "state" := nm.name rfl (.inr rfl) (by decide) (by decide)
  have s_state : StoreAt X 0 "state" := nm.store rfl (.inr rfl)
  have n_serial : NameAt X 1 "serial" := nm.name rfl (.inl rfl) (by decide) (by decide)
  have s_serial : StoreAt X 1 "serial" := nm.store rfl (.inl rfl)
  have n_slots : NameAt X 2 "slots" := nm.name rfl (.inl rfl) (by decide) (by decide)
  have s_slots : StoreAt X 2 "slots" := nm.store rfl (.inl rfl)
  have n_rows : NameAt X 3 "rows" := nm.name rfl (.inl rfl) (by decide) (by decide)
  have s_rows : StoreAt X 3 "rows" := nm.store rfl (.inl rfl)
  have n_at : NameAt X 4 "at" := nm.name rfl (.inl rfl) (by decide) (by decide)
  have s_at : StoreAt X 4 "at" := nm.store rfl (.inl rfl)
  have n_k : NameAt X 5 "k" := nm.name rfl (.inl rfl) (by decide) (by decide)
  have s_k : StoreAt X 5 "k" := nm.store rfl (.inl rfl)
  have n_first : NameAt X 6 "first" := nm.name rfl (.inl rfl) (by decide) (by decide)
  have s_first : StoreAt X 6 "first" := nm.store rfl (.inl rfl)
  have n_many : NameAt X 7 "many" := nm.name rfl (.inl rfl) (by decide) (by decide)
  have s_many : StoreAt X 7 "many" := nm.store rfl (.inl rfl)
  have n_due : NameAt X 8 "due" := nm.name rfl (.inl rfl) (by decide) (by decide)
  have s_due : StoreAt X 8 "due" := nm.store rfl (.inl rfl)
  have b_range : BltAt X "range" (.type "range") := nm.blt hX rfl T.z_range bo_range (by decide) (by decide)
  have g_law_next : Gl X "_law_next" := nm.gl rfl
  have b_len : BltAt X "len" (.builtin "len") := nm.blt hX rfl T.z_len bo_len (by decide) (by decide)
  have b_sorted : BltAt X "sorted" (.builtin "sorted") := nm.blt hX rfl T.z_sorted bo_sorted (by decide) (by decide)
  have b_set : BltAt X "set" (.type "set") := nm.blt hX rfl T.z_set bo_set (by decide) (by decide)
  have g_law_is : Gl X "_law_is" := nm.gl rfl
  have g_law_told_refs : Gl X "_law_told_refs" := nm.gl rfl
  have b_tuple : BltAt X "tuple" (.type "tuple") := nm.blt hX rfl T.z_tuple bo_tuple (by decide) (by decide)
  have m_range : X.mg "range" = none := by rw [hX.mg]; exact T.z_range
  obtain ⟨p, st, n, rfl, rfl, hs, hq⟩ := hS
  row_cond dstart
  refine wss_cons ?_
  refine ws_setLc' (i := 2) hst (own := [("k", 5)]) (by rw [nm.N]; rfl) (by rw [nm.sc]; rfl) (nm.swaps (by decide +kernel)) (nm.blk (by decide +kernel)) (fun _ => rfl) rfl ?_
  row_cond go
  rename_i r0 s0 hr0 hr0' hs0
  refine lc_name hX (by rw [nm.N]; rfl) (.inl rfl) (fun i acc M' => ∃ (xs : List Int) (st : D), acc = xs.map D.int ∧ M' = [(p, st)] ∧ DrawSt st ∧ xs.length = i) ⟨[], _, rfl, rfl, hs0, rfl⟩ (fun _ _ _ _ _ => trivial) (fun a i x acc M' hx hW => ?_) (fun a acc M' hW => ?_)
  · obtain ⟨xs, st, rfl, rfl, hs, hi⟩ := hW
    obtain ⟨hin, rfl⟩ := rngD_at hx
    refine put_go (fun X' hb => ?_)
    have hX_X' := hb.inn hX
    have hst_X' := hX_X'.std
    have n_k_X' : NameAt X' 5 "k" := hb.name (by rw [nm.N]; rfl) (by first | exact .inl rfl | exact .inr (.inl rfl) | exact .inr (.inr rfl)) (by decide) (by decide)
    have s_k_X' : StoreAt X' 5 "k" := hb.store (by rw [nm.N]; rfl) (by first | exact .inl rfl | exact .inr rfl)
    have g_law_next_X' : Gl X' "_law_next" := hb.gl rfl
    have n_state_X' : NameAt X' 0 "state" := hb.name (by rw [nm.N]; rfl) (by first | exact .inl rfl | exact .inr (.inl rfl) | exact .inr (.inr rfl)) (by decide) (by decide)
    row_cond go
    rename_i r s1 _ _ hs1
    exact lcend_id (by rw [List.length_map, hi]; show _ < 16777216; omega) ⟨xs ++ [r], _, by rw [List.map_append]; rfl, rfl, hs1, by simp [hi]⟩
  obtain ⟨xs, st, rfl, rfl, hs, hxs⟩ := hW
  rw [rngD_len] at hxs
  have hx0 : 1 ≤ xs.length := by omega
  have hx1 : xs.length ≤ 6 := by omega
  clear hs0 hxs
  row_cond gon
  rename_i q r1 s1 hr1 hr1' hs1
  refine ws_mid (fun Γ => ∃ (st : D) (L : List Rw) (at_ k f m : Option D), Γ = ⟨[some (.ref p), some (.int n), some (.ref a), some (.ref q), at_, k, f, m, none, none], [(q, .lst (L.map encR)), (a, .lst (xs.map D.int)), (p, st)], R⟩ ∧ DrawSt st ∧ L.length ≤ 13) ?_ ?_
  · refine ws_for hst (fun _ => rfl) ?_
    row_cond go
    rename_i r2 s2 hr2 hr2' hs2
    refine ⟨fun i Γ => ∃ (st : D) (L : List Rw) (at_ : Int) (k f m : Option D), Γ = ⟨[some (.ref p), some (.int n), some (.ref a), some (.ref q), some (.int at_), k, f, m, none, none], [(q, .lst (L.map encR)), (a, .lst (xs.map D.int)), (p, st)], R⟩ ∧ DrawSt st ∧ L.length = i, ⟨_, [], _, _, _, _, rfl, hs2, rfl⟩, fun _ _ _ => trivial, fun i x Γ hx hW => ?_, fun Γ hW => ?_⟩
    · obtain ⟨st, L, at_, k, f, m, rfl, hs, hi⟩ := hW
      obtain ⟨hin, rfl⟩ := rngD_at hx
      row_cond go
      rename_i y hy rr ss _ _ hss
      exact ⟨_, L ++ [_], _, _, _, _, rfl, by assumption, by simp [hi]⟩
    · obtain ⟨st, L, at_, k, f, m, rfl, hs, hi⟩ := hW
      rw [rngD_len] at hi
      exact ⟨_, L, _, _, _, _, rfl, hs, by omega⟩
  rintro Γ ⟨st, L, at_, k, f, m, rfl, hs, hL⟩
  row_cond go
  refine we_lc' hst (own := [("row", 9)]) (nm.blk (by decide +kernel)) (fun _ => rfl) rfl ?_
  row_cond go
  refine lc_name hX (by rw [nm.N]; rfl) (.inl rfl) (fun i acc M' => acc = ((L.take i).map fun r => D.int r.2.1) ∧ M' = [(q, .lst (L.map encR)), (a, .lst (xs.map D.int)), (p, st)]) ⟨rfl, rfl⟩ (fun b j acc M' h => ?_) (fun b i x acc M' hx hW => ?_) (fun b acc M' hW => ?_)
  · obtain ⟨rfl, rfl⟩ := h
    exact (inferInstance : SeeL _ _ _ _).see
  · obtain ⟨rfl, rfl⟩ := hW
    rw [List.getElem?_map] at hx
    obtain ⟨e, he, rfl⟩ := Option.map_eq_some_iff.mp hx
    refine put_go (fun X' hb => ?_)
    have hX_X' := hb.inn hX
    have hst_X' := hX_X'.std
    have n_row_X' : NameAt X' 9 "row" := hb.name (by rw [nm.N]; rfl) (by first | exact .inl rfl | exact .inr (.inl rfl) | exact .inr (.inr rfl)) (by decide) (by decide)
    have s_row_X' : StoreAt X' 9 "row" := hb.store (by rw [nm.N]; rfl) (by first | exact .inl rfl | exact .inr rfl)
    row_cond go
    refine lcend_id (by
      rw [List.length_map, List.length_take]
      show _ < 16777216
      omega) ⟨?_, rfl⟩
    rw [List.take_add_one, he, List.map_append]
    rfl
  obtain ⟨rfl, rfl⟩ := hW
  rw [List.length_map, List.take_length, show (L.map fun r => D.int r.2.1) = (L.map (·.2.1)).map D.int by rw [List.map_map]; rfl]
  refine wsorted_go (f := D.int) (by rw [List.length_map]; omega) fun c => ?_
  have hlen : (srt ltI (onceL (L.map (·.2.1)))).length ≤ 16777216 := by
    rw [srt_len]
    have := onceL_len (L.map (·.2.1))
    rw [List.length_map] at this
    omega
  row_cond go
  exact rt1 (hq _ hs)
def sp_law_pieces : SpD := fun ds M R Q => ∃ (z : Str), ds = [.str z] ∧ M = [] ∧ z.length ≤ 16 ∧ Q (.bl true) []
theorem sp_chunks_go {z : Str} {n : Nat} {R : Mem} {Q : D → Mem → Prop} (h0 : 0 < n) (h1 : n ≤ 1000) (hz : z.length ≤ 1000000) (q : ∀ p, Q (.ref p) [(p, .lst ((pieces z n).map D.str))]) : sp_chunks [.str z, .int n] [] R Q := ⟨z, n, rfl, rfl, h0, h1, hz, q⟩
theorem sp_chunks_go2 {z : Str} {n : Nat} {R : Mem} {Q : D → Mem → Prop} (h0 : 0 < n) (h1 : n ≤ 1000) (hz : z.length ≤ 1000000) (q : ∀ p, Q (.ref p) [(p, .lst ((pieces z n).map D.str))]) : sp_chunks ([.str z] ++ [.int n]) [] R Q := sp_chunks_go h0 h1 hz q
theorem sp_chunks_go4 {z : Str} {R : Mem} {Q : D → Mem → Prop} (hz : z.length ≤ 1000000) (q : ∀ p, Q (.ref p) [(p, .lst ((pieces z 4).map D.str))]) : sp_chunks ([.str z] ++ [.int 4]) [] R Q := sp_chunks_go (n := 4) (by decide) (by decide) hz q
theorem pieces_mul (z : Str) (n : Nat) : pieces z n = (List.range ((z.length + n - 1) / n)).map fun (k : Nat) => Txt.slice z (some ((n : Int) * (k : Int))) (some ((n : Int) * (k : Int) + n)) := by
  unfold pieces
  refine List.map_congr_left fun k _ => ?_
  have e : ((k * n : Nat) : Int) = (n : Int) * (k : Int) := by rw [Int.natCast_mul, Int.mul_comm]
  rw [Int.natCast_add, e]
local macro_rules | `(tactic| row_cond dspec) => `(tactic| first
  | ((with_reducible refine' sp_chunks_go2 ?a ?b ?c ?_); (case a => omega); (case b => omega); (case c => omega))
  | ((with_reducible refine' sp_chunks_go4 ?c ?_); (case c => omega)))
theorem cal_law_pieces {P : Program} {w : World} {K : PySem.W.Frag} {mg : Str → Option Value} {base : Heap} (T : Tx mg) (Da : DefAt K mg "_law_pieces" s_law_pieces) (c_law_is : Cal P w K mg base 4 "_law_is" (sp_law_is 3)) (c_chunks : CalX P w K mg base 1 "chunks" [(.int 4)] sp_chunks) (ck_chunks : CalK P w K mg base 1 "chunks" 1 ["size"] (fun ds es => ds ++ es) sp_chunks) : Cal P w K mg base (5) "_law_pieces" sp_law_pieces := by
  refine calD (k := 4) Da sc_law_pieces (fun f fd Fu => Fu.binds fun _ _ _ _ _ _ us hl => match us, hl with | [_], _ => rfl) (by row_cond dlen) (fun X F hX nm ds M R Q hS => ?_)
  have hst := hX.std
  have n_text : NameAt X 0 "text" := nm.name rfl (.inr rfl) (by decide) (by decide)
  have s_text : StoreAt X 0 "text" := nm.store rfl (.inr rfl)
  have n_many : NameAt X 1 "many" := nm.name rfl (.inr rfl) (by decide) (by decide)
  have s_many : StoreAt X 1 "many" := nm.store rfl (.inr rfl)
  have n_due : NameAt X 2 "due" := nm.name rfl (.inl rfl) (by decide) (by decide)
  have s_due : StoreAt X 2 "due" := nm.store rfl (.inl rfl)
  have b_range : BltAt X "range" (.type "range") := nm.blt hX rfl T.z_range bo_range (by decide) (by decide)
  have b_len : BltAt X "len" (.builtin "len") := nm.blt hX rfl T.z_len bo_len (by decide) (by decide)
  have g_law_is : Gl X "_law_is" := nm.gl rfl
  have g_chunks : Gl X "chunks" := nm.gl rfl
  have m_range : X.mg "range" = none := by rw [hX.mg]; exact T.z_range
  obtain ⟨z, rfl, rfl, hz, hq⟩ := hS
  row_cond dstart
  refine wss_cons ?_
  refine ws_for hst (fun _ => rfl) ?_
  haveI : SzLe z 16 := ⟨hz⟩
  row_cond go
  refine ⟨fun i Γ => ∃ m d k, Γ = ⟨[some (.str z), m, d, k], [], R⟩, ⟨_, _, _, rfl⟩, fun _ _ _ => trivial, fun i x Γ hx hW => ?_, fun Γ hW => ?_⟩
  · obtain ⟨m, d, k, rfl⟩ := hW
    obtain ⟨hin, rfl⟩ := rngD_at hx
    obtain ⟨n, hn, hn0, hn1⟩ : ∃ n : Nat, (1 + (i : Int)) = n ∧ 0 < n ∧ n ≤ 16 := ⟨1 + i, by omega, by omega, by omega⟩
    rw [hn]
    refine wg_name hst s_many (put_go (wss_wk (wss_cons ?_)))
    refine ws_setLc' (i := 2) hst (own := [("k", 3)]) (by rw [nm.N]; rfl) (by rw [nm.sc]; rfl) (nm.swaps (by decide +kernel)) (nm.blk (by decide +kernel)) (fun _ => rfl) rfl ?_
    row_cond go
    have ec : ((z.length : Int) + n - 1) / n = (((z.length + n - 1) / n : Nat) : Int) := by
      rw [show (z.length : Int) + n - 1 = ((z.length + n - 1 : Nat) : Int) by omega, ← Int.natCast_ediv]
    have hc := Nat.div_le_self (z.length + n - 1) n
    have hpl : (pieces z n).length = (z.length + n - 1) / n := by unfold pieces; rw [List.length_map, List.length_range]
    rw [ec]
    refine ⟨⟨by omega, by omega⟩, ?_⟩
    refine lc_name hX (by rw [nm.N]; rfl) (.inl rfl) (fun j acc M' => acc = ((pieces z n).take j).map D.str ∧ M' = []) ⟨rfl, rfl⟩ (fun _ _ _ _ _ => trivial) (fun a j x acc M' hx hW => ?_) (fun a acc M' hW => ?_)
    · obtain ⟨rfl, rfl⟩ := hW
      obtain ⟨hj, rfl⟩ := rngD_at hx
      refine put_go (fun X' hb => ?_)
      have hX_X' := hb.inn hX
      have hst_X' := hX_X'.std
      have n_k_X' : NameAt X' 3 "k" := hb.name (by rw [nm.N]; rfl) (by first | exact .inl rfl | exact .inr (.inl rfl) | exact .inr (.inr rfl)) (by decide) (by decide)
      have s_k_X' : StoreAt X' 3 "k" := hb.store (by rw [nm.N]; rfl) (by first | exact .inl rfl | exact .inr rfl)
      have n_text_X' : NameAt X' 0 "text" := hb.name (by rw [nm.N]; rfl) (by first | exact .inl rfl | exact .inr (.inl rfl) | exact .inr (.inr rfl)) (by decide) (by decide)
      have n_many_X' : NameAt X' 1 "many" := hb.name (by rw [nm.N]; rfl) (by first | exact .inl rfl | exact .inr (.inl rfl) | exact .inr (.inr rfl)) (by decide) (by decide)
      row_cond go
      refine lcend_id (by
        rw [List.length_map, List.length_take]
        show _ < 16777216
        omega) ⟨?_, rfl⟩
      have e : (pieces z n)[j]? = some (Txt.slice z (some ((n : Int) * (0 + (j : Int)))) (some ((n : Int) * (0 + (j : Int)) + n))) := by
        rw [pieces_mul, List.getElem?_map, List.getElem?_range (by omega)]
        simp
      rw [List.take_add_one, e, List.map_append]
      rfl
    obtain ⟨rfl, rfl⟩ := hW
    rw [rngD_len, List.take_of_length_le (by omega)]
    have hpz : (pieces z n).length ≤ 16777216 := by omega
    row_cond go
    · rename_i h _
      have : n = 4 := by omega
      subst this
      row_cond go
      exact ⟨_, wk_none, _, _, _, rfl⟩
    · exact ⟨_, wk_none, _, _, _, rfl⟩
  · obtain ⟨m, d, k, rfl⟩ := hW
    row_cond go
    exact rt0 hq

end K18


namespace K18
open PySem PySem.Spec PyProof.Rows L2 DL

/-! ### the law's own head -/
theorem ok_start {P : Program} {w : World} {K : PySem.W.Frag} {mg : Str → Option Value} {base : Heap} (T : Tx mg) {f : Addr} {fd : FuncData} (Fu : Fun K "_law_start" "_law_start" s_law_start f fd) : FnOk P w K mg base CX0 1 f fd ["script"] (spStart K) := by
  refine Fu.ok sc_law_start (fun vs H Q E h => ?_) (fun cdv A outer s H vs Q E hr h => ?_)
  · obtain ⟨a, ns, rfl, _⟩ := h
    rfl
  · obtain ⟨a, ns, rfl, hS, hl, q⟩ := h
    refine ⟨_, pss_one (ps_ret (pe_lst (pa_cons (pe_callTy call_list_of (by rfl) T.z_list bo_list (pa_cons (pv 0) pa_nil)) (pa_cons pe_int (pa_cons pe_int (pa_cons pe_int pa_nil)))))), ?_⟩
    exact ⟨.ref a, rfl, a, _, rfl, .inl hS, fun l hl1 => ⟨Nat.le_of_ble_eq_true rfl, fun p hp => q l p hl1 hp⟩⟩
theorem ok_law {P : Program} {w : World} {K : PySem.W.Frag} {mg : Str → Option Value} {base : Heap} {k : Nat} (T : Tx mg) {f fS : Addr} {fd fdS : FuncData} (Fu : Fun K "law" "law" s_law f fd) (FS : Fun K "_law_start" "_law_start" s_law_start fS fdS) (gS : mg "_law_start" = some (.ref fS)) (hk : 1 ≤ k)
    (hrest : ∀ (X : Cx) (F : Fr), In X P w K mg base k → Nm X N_law (defScope s_law) → ∀ p st, DrawSt st → WSs X F (defBody s_law).tail ⟨none :: some (.ref p) :: List.replicate (N_law.length - 2) none, [(p, st)], []⟩ (outD fun d _ => d = .bl true)) : FnOk P w K mg base CX0 (k + 1) f fd ["script"] (spLaw K) := by
  have bS : Binds K fdS ["script"] [] := FS.binds fun _ _ _ _ _ _ us hl => match us, hl with | [_], _ => rfl
  have GS : FnOk P w K mg base CX0 1 fS fdS ["script"] (spStart K) := ok_start T FS
  refine Fu.ok sc_law (fun vs H Q E h => ?_) (fun cdv A outer s H vs Q E hr h => ?_)
  · obtain ⟨a, ns, rfl, _⟩ := h
    rfl
  · obtain ⟨a, ns, rfl, hS, hl, q⟩ := h
    refine ⟨_, pss_cons (ps_set (i := 1) sc_law.nd rfl (.inl rfl) (pe_call GS (hr.mono hk) (by rfl) gS FS.kp bS .nil pass0 (pa_cons (pv 0) pa_nil))) pss_U, ?_⟩
    refine ⟨.ref a, rfl, a, ns, rfl, hS, hl, fun r p hq hp => ?_⟩
    have hin : In (cxOf CX0 P w K mg base N_law "law" (defScope s_law) f cdv A outer s H E).nox P w K mg base k := ⟨rfl, rfl, rfl, rfl, rfl, hr, rfl, sc_law.nd, rfl⟩
    refine hrest _ ⟨fun _ => none, fun _ => none⟩ hin ⟨rfl, rfl, rfl⟩ p _ ⟨ns, 0, 0, 0, rfl, hl, by omega, by omega⟩ _ _ _ (start_holds hq hp rfl fun i d e => ?_) _ ⟨?_, ?_, ?_, ?_⟩
    · match i, e with
      | 0, e => cases e
      | 1, e => cases e; exact ⟨rfl, rfl⟩
      | i + 2, e =>
        have e2 : (List.replicate (N_law.length - 2) (none : Option D))[i]? = some (some d) := e
        rw [List.getElem?_replicate] at e2
        split at e2 <;> cases e2
    · rintro Γ' G' σ' H' ⟨M', _, _, hp⟩ _ _
      cases hp
    · rintro d Γ' G' σ' v H' ⟨M', _, _, rfl⟩ _ _ rv
      cases rv
      exact q _
    · exact fun _ _ _ _ z => z.elim
    · exact fun _ _ _ _ z => z.elim

end K18


namespace K18
open PySem PySem.Spec PyProof.Rows L2 DL
local macro_rules | `(tactic| row_cond dcall) => `(tactic| first
  | ((with_reducible refine' we_callX (x := "chunks") ?c ?x ?j ?g ?d ?e ?p ?_); (case c => assumption); (case x => assumption); (case j => first | decide | exact Nat.le_refl _ | omega); (case g => assumption); (case d => decide); (case e => rfl); (case p => rfl))
  | ((with_reducible refine' we_callK (x := "chunks") ?c ?x ?j ?g ?a ?k ?d ?e ?p ?_); (case c => assumption); (case x => assumption); (case j => first | decide | exact Nat.le_refl _ | omega); (case g => assumption); (case a => rfl); (case k => rfl); (case d => decide); (case e => rfl); (case p => rfl))
  | ((with_reducible refine' we_call (x := "refs") ?c ?x ?j ?g ?d ?e ?p ?_); (case c => assumption); (case x => assumption); (case j => first | decide | exact Nat.le_refl _ | omega); (case g => assumption); (case d => decide); (case e => rfl); (case p => rfl))
  | ((with_reducible refine' we_call (x := "find_entry") ?c ?x ?j ?g ?d ?e ?p ?_); (case c => assumption); (case x => assumption); (case j => first | decide | exact Nat.le_refl _ | omega); (case g => assumption); (case d => decide); (case e => rfl); (case p => rfl))
  | ((with_reducible refine' we_call (x := "with_entry") ?c ?x ?j ?g ?d ?e ?p ?_); (case c => assumption); (case x => assumption); (case j => first | decide | exact Nat.le_refl _ | omega); (case g => assumption); (case d => decide); (case e => rfl); (case p => rfl))
  | ((with_reducible refine' we_call (x := "without_entry") ?c ?x ?j ?g ?d ?e ?p ?_); (case c => assumption); (case x => assumption); (case j => first | decide | exact Nat.le_refl _ | omega); (case g => assumption); (case d => decide); (case e => rfl); (case p => rfl))
  | ((with_reducible refine' we_call (x := "_law_mix") ?c ?x ?j ?g ?d ?e ?p ?_); (case c => assumption); (case x => assumption); (case j => first | decide | exact Nat.le_refl _ | omega); (case g => assumption); (case d => decide); (case e => rfl); (case p => rfl))
  | ((with_reducible refine' we_call (x := "_law_start") ?c ?x ?j ?g ?d ?e ?p ?_); (case c => assumption); (case x => assumption); (case j => first | decide | exact Nat.le_refl _ | omega); (case g => assumption); (case d => decide); (case e => rfl); (case p => rfl))
  | ((with_reducible refine' we_call1 (x := "_law_next") ?c ?x ?j ?g ?d ?e ?p ?_); (case c => assumption); (case x => assumption); (case j => first | decide | exact Nat.le_refl _ | omega); (case g => assumption); (case d => decide); (case e => rfl); (case p => rfl))
  | ((with_reducible refine' we_call (x := "_law_is") ?c ?x ?j ?g ?d ?e ?p ?_); (case c => assumption); (case x => assumption); (case j => first | decide | exact Nat.le_refl _ | omega); (case g => assumption); (case d => decide); (case e => rfl); (case p => rfl))
  | ((with_reducible refine' we_call1 (x := "_law_names") ?c ?x ?j ?g ?d ?e ?p ?_); (case c => assumption); (case x => assumption); (case j => first | decide | exact Nat.le_refl _ | omega); (case g => assumption); (case d => decide); (case e => rfl); (case p => rfl))
  | ((with_reducible refine' we_call1 (x := "_law_text") ?c ?x ?j ?g ?d ?e ?p ?_); (case c => assumption); (case x => assumption); (case j => first | decide | exact Nat.le_refl _ | omega); (case g => assumption); (case d => decide); (case e => rfl); (case p => rfl))
  | ((with_reducible refine' we_call (x := "_law_entries") ?c ?x ?j ?g ?d ?e ?p ?_); (case c => assumption); (case x => assumption); (case j => first | decide | exact Nat.le_refl _ | omega); (case g => assumption); (case d => decide); (case e => rfl); (case p => rfl))
  | ((with_reducible refine' we_call (x := "_law_told_refs") ?c ?x ?j ?g ?d ?e ?p ?_); (case c => assumption); (case x => assumption); (case j => first | decide | exact Nat.le_refl _ | omega); (case g => assumption); (case d => decide); (case e => rfl); (case p => rfl))
  | ((with_reducible refine' we_call (x := "_law_folder") ?c ?x ?j ?g ?d ?e ?p ?_); (case c => assumption); (case x => assumption); (case j => first | decide | exact Nat.le_refl _ | omega); (case g => assumption); (case d => decide); (case e => rfl); (case p => rfl))
  | ((with_reducible refine' we_call1 (x := "_law_file") ?c ?x ?j ?g ?d ?e ?p ?_); (case c => assumption); (case x => assumption); (case j => first | decide | exact Nat.le_refl _ | omega); (case g => assumption); (case d => decide); (case e => rfl); (case p => rfl))
  | ((with_reducible refine' we_call (x := "_law_pieces") ?c ?x ?j ?g ?d ?e ?p ?_); (case c => assumption); (case x => assumption); (case j => first | decide | exact Nat.le_refl _ | omega); (case g => assumption); (case d => decide); (case e => rfl); (case p => rfl))
  | ((with_reducible refine' we_call (x := "law") ?c ?x ?j ?g ?d ?e ?p ?_); (case c => assumption); (case x => assumption); (case j => first | decide | exact Nat.le_refl _ | omega); (case g => assumption); (case d => decide); (case e => rfl); (case p => rfl)))
/-! the steps: one line a construct -/
local macro_rules | `(tactic| row_cond dlen) => `(tactic| (intro ds M R Q h; first | (obtain ⟨h1, _⟩ := h; subst h1; rfl) | (obtain ⟨_, h1, _⟩ := h; subst h1; rfl) | (obtain ⟨_, _, h1, _⟩ := h; subst h1; rfl) | (obtain ⟨_, _, _, h1, _⟩ := h; subst h1; rfl) | (obtain ⟨_, _, _, _, h1, _⟩ := h; subst h1; rfl) | (obtain ⟨_, _, _, _, _, h1, _⟩ := h; subst h1; rfl) | (obtain ⟨_, _, _, _, _, _, h1, _⟩ := h; subst h1; rfl) | (obtain ⟨_, _, _, _, _, _, _, h1, _⟩ := h; subst h1; rfl) | (obtain ⟨_, _, _, _, _, _, _, _, h1, _⟩ := h; subst h1; rfl) | (obtain ⟨_, _, _, _, _, _, _, _, _, h1, _⟩ := h; subst h1; rfl) | (obtain ⟨_, _, _, _, _, _, _, _, _, _, h1, _⟩ := h; subst h1; rfl) | (obtain ⟨_, _, _, _, _, _, _, _, _, _, _, h1, _⟩ := h; subst h1; rfl) | (obtain ⟨_, _, _, _, _, _, _, _, _, _, _, _, h1, _⟩ := h; subst h1; rfl)))
local macro_rules | `(tactic| row_cond dsz) => `(tactic| first | exact Nat.le_of_ble_eq_true rfl | assumption | (simp only [List.length_map, List.length_cons, List.length_append, List.length_nil, List.length_reverse, List.length_take, List.length_drop, PySem.sizeLine]; omega))
/- expressions -/
local macro_rules | `(tactic| row_cond dE) => `(tactic| first
  | ((with_reducible refine' we_name ?n ?e ?_); (case n => assumption); (case e => rfl))
  | (with_reducible refine we_int ?_)
  | (with_reducible refine we_bl ?_)
  | (with_reducible refine we_str ?_)
  | (with_reducible refine we_non ?_)
  | (with_reducible refine we_bin ?_)
  | ((with_reducible refine' we_cmp ?n ?_); (case n => rfl))
  | (with_reducible refine we_slice ?_)
  | (with_reducible refine we_rev ?_)
  | ((with_reducible refine' we_ix ?n ?_); (case n => exact fun _ _ => rfl))
  | (with_reducible refine we_tupV ?_)
  | (with_reducible refine we_lstV ?_)
  | ((with_reducible refine' we_blt ?b ?n ?m ?_); (case b => assumption); (case n => rfl); (case m => rfl))
  | ((with_reducible refine' we_typ ?b ?n ?m ?_); (case b => assumption); (case n => rfl); (case m => rfl))
  | ((with_reducible refine' we_tyName ?b ?_); (case b => assumption))
  | (with_reducible refine we_one ?_)
  | (with_reducible refine we_and ?_)
  | (with_reducible refine we_or ?_)
  | (with_reducible refine we_not ?_)
  | (with_reducible refine we_ifexp ?_)
  | ((with_reducible refine' we_un ?n ?_); (case n => exact fun z => nomatch z))
  | row_cond dcall
  | ((with_reducible refine we_bm (T := "list") PySem.F.plainAttrs_list PySem.F.slot_list_append PySem.F.type_list_append ?a ?b ?c ?d ?e ?_); (case a => rfl); (case b => rfl); (case c => rfl); (case d => rfl); (case e => rfl))
  | ((with_reducible refine we_bm0 (T := "list") PySem.F.plainAttrs_list PySem.F.slot_list_pop PySem.F.type_list_pop ?a ?b ?_); (case a => rfl); (case b => rfl))
  | ((with_reducible refine we_bm (T := "list") PySem.F.plainAttrs_list PySem.F.slot_list_extend PySem.F.type_list_extend ?a ?b ?c ?d ?e ?_); (case a => rfl); (case b => rfl); (case c => rfl); (case d => rfl); (case e => rfl)))
/- tests -/
local macro_rules | `(tactic| row_cond dT) => `(tactic| first
  | ((with_reducible refine' wt_cmp ?n ?_); (case n => rfl))
  | (with_reducible refine wt_not ?_)
  | (with_reducible refine wt_bool ?_)
  | (with_reducible refine ww_and1 ?_)
  | (with_reducible refine ww_or1 ?_)
  | (with_reducible refine ww_and ?_)
  | (with_reducible refine ww_or ?_)
  | ((with_reducible refine' wt_val ?n ?_); (case n => exact fun _ => rfl)))
/- statements -/
local macro_rules | `(tactic| row_cond dS) => `(tactic| first
  | (with_reducible refine wss_cons ?_)
  | (with_reducible refine wss_nil ?_)
  | ((with_reducible refine' ws_set ?a ?n ?h ?_); (case a => assumption); (case n => assumption); (case h => rfl))
  | ((with_reducible refine' ws_sub ?h ?_); (case h => rfl))
  | ((with_reducible refine' ws_asg ?a ?n ?h ?_); (case a => rfl); (case n => rfl); (case h => rfl))
  | (with_reducible refine ws_if ?_)
  | row_cond dret
  | ((with_reducible refine' ws_expr ?h ?_); (case h => rfl))
  | (with_reducible refine ws_pass ?_)
  | (with_reducible refine ws_break ?_)
  | (with_reducible refine ws_continue ?_)
  | (with_reducible refine ws_retN ?_))
local macro_rules | `(tactic| row_cond dSn) => `(tactic| first
  | (with_reducible refine wss_cons ?_)
  | (with_reducible refine wss_nil ?_)
  | ((with_reducible refine' ws_set ?a ?n ?h ?_); (case a => assumption); (case n => assumption); (case h => rfl))
  | ((with_reducible refine' ws_sub ?h ?_); (case h => rfl))
  | ((with_reducible refine' ws_asg ?a ?n ?h ?_); (case a => rfl); (case n => rfl); (case h => rfl))
  | row_cond dret
  | ((with_reducible refine' ws_expr ?h ?_); (case h => rfl))
  | (with_reducible refine ws_pass ?_)
  | (with_reducible refine ws_break ?_)
  | (with_reducible refine ws_continue ?_)
  | (with_reducible refine ws_retN ?_))
/- arguments, targets, values -/
local macro_rules | `(tactic| row_cond dV) => `(tactic| first
  | (with_reducible refine wa_nil ?_)
  | ((with_reducible refine' wa_cons ?n ?_); (case n => rfl))
  | (with_reducible refine wav_nil ?_)
  | ((with_reducible refine' wav_cons ?n ?_); (case n => rfl))
  | (with_reducible refine put_go ?_)
  | (with_reducible refine fz_lst ?_)
  | (with_reducible refine fz_tup ?_)
  | (with_reducible refine fz_id ?_)
  | (with_reducible refine own0_go ?_)
  | (with_reducible refine own1_go ?_)
  | (with_reducible refine app_go ?_)
  | (with_reducible refine mset_go ?_)
  | ((with_reducible refine' wg_name ?a ?n ?_); (case a => assumption); (case n => assumption))
  | ((with_reducible refine' wg_tup ?a ?n ?h ?_); (case a => assumption); (case n => rfl); (case h => rfl))
  | (with_reducible refine wgs_nil ?_)
  | ((with_reducible refine' wgs_cons ?n ?_); (case n => rfl))
  | (with_reducible refine wpt_none ?_)
  | (with_reducible refine wpt_some ?_)
  | ((with_reducible refine' wset_list ?n ?_); (case n => first | rfl | row_cond dix)))
/- what is walked -/
local macro_rules | `(tactic| row_cond dI) => `(tactic| first
  | ((with_reducible refine' wi_range1 ?a ?b ?c ?_); (case a => exact BltAt.gl (by assumption)); (case b => exact BltAt.mg (by assumption)); (case c => rfl))
  | ((with_reducible refine' wi_range2 ?a ?b ?c ?d ?_); (case a => exact BltAt.gl (by assumption)); (case b => exact BltAt.mg (by assumption)); (case c => rfl); (case d => rfl))
  | (with_reducible refine wi_val ?_)
  | (with_reducible refine wiv_list ?_)
  | (with_reducible refine wiv_tup ?_)
  | ((with_reducible refine' wgc_name ?a ?n ?h ?_); (case a => assumption); (case n => assumption); (case h => decide))
  | ((with_reducible refine' wgc_tup ?a ?n ?h ?_); (case a => assumption); (case n => rfl); (case h => rfl))
  | (with_reducible refine wgcs_nil ?_)
  | ((with_reducible refine' wgcs_cons ?n ?_); (case n => rfl))
  | (with_reducible refine wts_nil ?_)
  | (with_reducible refine wts_one ?_))
/- operations by values -/
local macro_rules | `(tactic| row_cond dO) => `(tactic| first
  | (with_reducible refine wo_add ?_)
  | (with_reducible refine wo_sub ?_)
  | ((with_reducible refine' wo_mulS ?n ?_); (case n => first | exact .inr ⟨by decide, by decide⟩ | exact .inl ⟨by decide, by decide⟩ | exact .inr ⟨by omega, by omega⟩ | exact .inl ⟨by omega, by omega⟩))
  | ((with_reducible refine' wo_fdiv ?n ?m ?_); (case n => first | decide | omega); (case m => first | decide | row_cond dlog))
  | ((with_reducible refine' wo_mod ?n ?_); (case n => first | decide | omega))
  | (with_reducible refine wo_powL ?_)
  | ((with_reducible refine' wo_pow ?n ?_); (case n => exact ⟨by decide, by decide, by decide⟩))
  | (with_reducible refine wo_xor ?_)
  | (with_reducible refine wo_lt ?_)
  | (with_reducible refine wo_le ?_)
  | (with_reducible refine wo_gt ?_)
  | (with_reducible refine wo_ge ?_)
  | (with_reducible refine wo_eqI ?_)
  | (with_reducible refine wo_neI ?_)
  | (with_reducible refine wo_eqS ?_)
  | (with_reducible refine wo_neS ?_)
  | (with_reducible refine wo_isN ?_)
  | (with_reducible refine wo_isnotN ?_)
  | (with_reducible refine wu_neg ?_)
  | (with_reducible refine wc_int ?_)
  | (with_reducible refine wc_intB ?_)
  | (with_reducible refine wc_abs ?_)
  | ((with_reducible refine' wc_max2 ?a ?_); (case a => assumption))
  | ((with_reducible refine' wc_min2 ?a ?_); (case a => assumption))
  | (with_reducible refine wc_list ?_)
  | (with_reducible refine wc_tuple ?_)
  | ((with_reducible refine' wc_lenS ?a ?_); (case a => row_cond dsz))
  | (with_reducible refine wc_lenM ?_)
  | (with_reducible refine wc_len ?_)
  | (with_reducible refine wc_isK ?_)
  | ((with_reducible refine' wc_allM ?a ?_); (case a => assumption))
  | ((with_reducible refine' wc_anyM ?a ?_); (case a => assumption))
  | ((with_reducible refine' wc_sum ?a ?_); (case a => assumption))
  | ((with_reducible refine' wx_list ?n ?_); (case n => row_cond dat))
  | ((with_reducible refine' wx_map ?a ?b ?_); (case a => omega); (case b => omega))
  | ((with_reducible refine' wx_seq ?a ?b ?_); (case a => omega); (case b => omega))
  | ((with_reducible refine' wx_tup ?n ?_); (case n => row_cond dat))
  | (with_reducible refine wsl_listM ?_)
  | (with_reducible refine wsl_list ?_)
  | (with_reducible refine wrev_goM ?_)
  | (with_reducible refine wrev_go ?_)
  | ((with_reducible refine' wo_catM ?n ?_); (case n => row_cond dsz))
  | ((with_reducible refine' wo_cat ?n ?_); (case n => row_cond dsz))
  | ((with_reducible refine' wm_append ?n ?_); (case n => row_cond dsz)))
local macro_rules | `(tactic| row_cond dat) => `(tactic| rfl)
local macro_rules | `(tactic| row_cond dix) => `(tactic| rfl)
local macro_rules | `(tactic| row_cond dlog) => `(tactic| first | decide | exact log_small (by omega) (by omega))
/- what stands between -/
local macro_rules | `(tactic| row_cond dQ) => `(tactic| first
  | (with_reducible refine ⟨_, rfl, ?_⟩)
  | (with_reducible refine br_true ?_)
  | (with_reducible refine br_false ?_)
  | (with_reducible refine rb_true ?_)
  | (with_reducible refine rb_false ?_)
  | ((with_reducible refine' br_dec ?_ ?_) <;> intro _)
  | ((with_reducible refine' br_ndec ?_ ?_) <;> intro _)
  | ((with_reducible refine' rb_dec ?_ ?_) <;> intro _)
  | ((with_reducible refine' rb_ndec ?_ ?_) <;> intro _)
  | (refine br_is rfl ?_)
  | (refine br_isnot rfl ?_)
  | (refine rb_is rfl ?_)
  | (refine rb_isnot rfl ?_)
  | ((with_reducible refine' ⟨⟨?a, ?b⟩, ?_⟩); (case a => omega); (case b => omega))
  | ((with_reducible refine' ⟨⟨?a, ?b, ?c, ?d⟩, ?_⟩); (case a => omega); (case b => omega); (case c => omega); (case d => omega))
  | (with_reducible refine app_go ?_)
  | (with_reducible refine ⟨tym_list, ?_⟩)
  | (with_reducible refine ⟨tym_str, ?_⟩)
  | ((with_reducible refine ⟨?n, ?_⟩); (case n => (show _ ≤ PySem.sizeLine); row_cond dsz))
  | (with_reducible intro _))
local macro_rules | `(tactic| row_cond dstart) => `(tactic| simp only [startD, List.map_cons, List.map_nil, List.length_cons, List.length_nil, List.cons_append, List.nil_append, Nat.zero_add, Nat.reduceAdd, Nat.reduceSub, List.replicate_succ, List.replicate_zero])
local macro_rules | `(tactic| row_cond d) => `(tactic| first | row_cond dE | row_cond dV | row_cond dO | row_cond dT | row_cond dS | row_cond dI | row_cond dmore | row_cond dspec | row_cond dQ)
local macro_rules | `(tactic| row_cond dn) => `(tactic| first | row_cond dE | row_cond dV | row_cond dO | row_cond dT | row_cond dSn | row_cond dI | row_cond dmore | row_cond dspec | row_cond dQ)
local macro_rules | `(tactic| row_cond gon) => `(tactic| repeat' (row_cond dn))
local macro_rules | `(tactic| row_cond go) => `(tactic| repeat' (row_cond d))
/- the later parts of the layer -/
local macro_rules | `(tactic| row_cond dE) => `(tactic| first
  | ((with_reducible refine' we_sortedSet ?a ?b ?c ?d ?e ?_); (case a => assumption); (case b => assumption); (case c => assumption); (case d => rfl); (case e => rfl))
  | ((with_reducible refine' we_get2 ?a ?b ?_); (case a => assumption); (case b => exact ⟨rfl, rfl, rfl, rfl⟩))
  | ((with_reducible refine' we_get1 ?a ?b ?_); (case a => assumption); (case b => exact ⟨rfl, rfl, rfl, rfl⟩))
  | ((with_reducible refine' we_pop1 ?b ?_); (case b => exact ⟨rfl, rfl, rfl, rfl⟩)))
local macro_rules | `(tactic| row_cond dO) => `(tactic| first
  | ((with_reducible refine' wc_sorted ?a ?b ?c ?_); (case a => assumption); (case b => decide); (case c => first | exact fun _ _ => trivial | assumption))
  | ((with_reducible refine' wsorted_go ?a ?_); (case a => first | assumption | omega))
  | ((with_reducible refine' wo_inD ?a ?b ?_); (case a => assumption); (case b => decide))
  | ((with_reducible refine' wo_ninD ?a ?b ?_); (case a => assumption); (case b => decide))
  | (with_reducible refine getD_K ?_)
  | (with_reducible refine getD_T ?_)
  | ((with_reducible refine' wsl_txt ?a ?_); (case a => row_cond dsz))
  | ((with_reducible refine' wx_strN ?a ?b ?c ?_); (case a => row_cond dsz); (case b => omega); (case c => first | omega | (simp only [PySem.Str.length]; omega)))
  | (with_reducible refine ⟨isDD_K, ?_⟩)
  | (with_reducible refine ⟨isDD_T, ?_⟩))
local macro_rules | `(tactic| row_cond dO) => `(tactic| first
  | ((with_reducible refine' wm_appendM ?n ?_); (case n => row_cond dsz)))
local macro_rules | `(tactic| row_cond dE) => `(tactic| ((with_reducible refine' we_con ?c ?_); (case c => assumption)))
local macro_rules | `(tactic| row_cond dV) => `(tactic| first
  | (with_reducible refine wk_nil ?_)
  | (with_reducible refine wk_cons ?_)
  | (with_reducible refine ⟨rfl, rfl, ?_⟩))
local macro_rules | `(tactic| row_cond dI) => `(tactic| ((with_reducible refine' wi_range3 ?a ?b ?c ?d ?_); (case a => exact BltAt.gl (by assumption)); (case b => exact BltAt.mg (by assumption)); (case c => rfl); (case d => rfl)))
local macro_rules | `(tactic| row_cond dO) => `(tactic| first
  | ((with_reducible refine' wc_lenS ?a ?_); (case a => row_cond dsz)))
local macro_rules | `(tactic| row_cond dO) => `(tactic| first
  | ((with_reducible refine' wo_addS ?a ?_); (case a => row_cond dsz)))
local macro_rules | `(tactic| row_cond dO) => `(tactic| first
  | ((with_reducible refine' wo_addS2 ?a ?_); (case a => first | decide | omega))
  | ((with_reducible refine' wsl_txt2 ?a ?_); (case a => first | decide | omega))
  | ((with_reducible refine' wc_lenS2 ?a ?_); (case a => first | decide | omega)))
local macro_rules | `(tactic| row_cond dE) => `(tactic| first
  | ((with_reducible refine we_bm (T := "str") PySem.F.plainAttrs_str PySem.F.slot_str_index PySem.F.type_str_index ?a ?b ?c ?d ?e ?_); (case a => rfl); (case b => rfl); (case c => rfl); (case d => rfl); (case e => rfl))
  | ((with_reducible refine we_bm (T := "str") PySem.F.plainAttrs_str PySem.F.slot_str_join PySem.F.type_str_join ?a ?b ?c ?d ?e ?_); (case a => rfl); (case b => rfl); (case c => rfl); (case d => rfl); (case e => rfl))
  | ((with_reducible refine we_bm (T := "str") PySem.F.plainAttrs_str PySem.F.slot_str_startswith PySem.F.type_str_startswith ?a ?b ?c ?d ?e ?_); (case a => rfl); (case b => rfl); (case c => rfl); (case d => rfl); (case e => rfl)))
local macro_rules | `(tactic| row_cond dO) => `(tactic| first
  | (with_reducible refine wm_starts ?_))
local macro_rules | `(tactic| row_cond dret) => `(tactic| (with_reducible refine ws_ret ?_))
local macro_rules | `(tactic| row_cond dO) => `(tactic| first
  | ((with_reducible refine' wx_asK ?a ?b ?_); (case a => assumption); (case b => assumption))
  | ((with_reducible refine' wo_inAsK ?a ?_); (case a => assumption))
  | ((with_reducible refine' wo_ninAsK ?a ?_); (case a => assumption))
  | ((with_reducible refine' wset_asK ?a ?b ?_); (case a => assumption); (case b => row_cond dsz))
  | (with_reducible refine getD_asK ?_)
  | ((with_reducible refine' popD_asK ?b ?_); (case b => assumption))
  | ((with_reducible refine' wx_asT ?a ?b ?_); (case a => assumption); (case b => assumption))
  | ((with_reducible refine' wo_inAsT ?a ?_); (case a => assumption))
  | ((with_reducible refine' wo_ninAsT ?a ?_); (case a => assumption))
  | ((with_reducible refine' wset_asT ?a ?b ?_); (case a => assumption); (case b => row_cond dsz))
  | (with_reducible refine getD_asT ?_)
  | ((with_reducible refine' wc_sortedAs ?a ?_); (case a => assumption)))
local macro_rules | `(tactic| row_cond dO) => `(tactic| first
  | (with_reducible refine wc_lenAsK ?_)
  | (with_reducible refine wc_lenAsT ?_))
local macro_rules | `(tactic| row_cond dI) => `(tactic| first
  | (with_reducible refine wiv_asK ?_))

local macro_rules | `(tactic| row_cond disd) => `(tactic| first | assumption | exact isd_int _ _ | exact isd_str _ _ | exact isd_non _ | exact isd_mapL (by first | omega | assumption) (by decide) | exact isd_mapT (by first | omega | assumption) (by decide))
local macro_rules | `(tactic| row_cond dspec) => `(tactic| first
  | ((with_reducible refine' sp_law_next_go ?a ?b ?c ?_); (case a => assumption); (case b => first | decide | omega | (split <;> omega)); (case c => first | decide | omega | (split <;> omega)))
  | (with_reducible refine sp_law_mix_go ?_)
  | ((with_reducible refine' sp_law_is_self ?a ?_); (case a => row_cond disd))
  | ((with_reducible refine' sp_law_is_lst ?a ?_); (case a => row_cond disd)))
local macro_rules | `(tactic| row_cond dmore) => `(tactic| first
  | (with_reducible refine ⟨_, [], rfl, ?_⟩))

/-! ### the law -/
theorem wk_sub {sl : List (Option D)} {M M' R : Mem} (h : M'.Sublist M) : Wk ⟨sl, M, R⟩ ⟨sl, M', R⟩ := ⟨.refl _, h, rfl⟩
theorem sp_names_go {p : Addr} {st : D} {n : Int} {R : Mem} {Q : D → Mem → Prop} (hs : DrawSt st) (h0 : 0 ≤ n) (h1 : n ≤ 60) (q : ∀ (ws : List Str) (st' : D), (ws.length : Int) = n → (∀ w ∈ ws, Wd 8 w) → DrawSt st' → Q (.lst (ws.map D.str)) [(p, st')]) : sp_law_names [.ref p, .int n] [(p, st)] R Q := ⟨p, st, n, rfl, rfl, hs, h0, h1, q⟩
theorem sp_text_go {p : Addr} {st : D} {n : Int} {R : Mem} {Q : D → Mem → Prop} (hs : DrawSt st) (h0 : 0 ≤ n) (h1 : n ≤ 60) (q : ∀ (z : Str) (st' : D), z.length ≤ n.toNat → DrawSt st' → Q (.str z) [(p, st')]) : sp_law_text [.ref p, .int n] [(p, st)] R Q := ⟨p, st, n, rfl, rfl, hs, h0, h1, q⟩
theorem sp_told_data {s b : D} {R : Mem} {Q : D → Mem → Prop} (q : Q (.lst []) []) : sp_law_told_refs [.tup [.str "data", s, b]] [] R Q := ⟨_, s, b, rfl, rfl, .inl ⟨rfl, q⟩⟩
theorem sp_with_go {es : List Ent} {w : Str} {s : Int} {R : Mem} {Q : D → Mem → Prop} (nd : (es.map (·.1)).Nodup) (h : es.length ≤ 99) (q : Q (.tup ((srt (ltP2 ltS ltI) (putE es w s)).map encE)) []) : sp_with_entry [.tup ((srt (ltP2 ltS ltI) es).map encE), .str w, .int s] [] R Q := ⟨_, w, s, rfl, rfl, by rw [srt_len]; omega, by rw [sorted_put nd]; exact q⟩
theorem sp_without_go {es : List Ent} {w : Str} {R : Mem} {Q : D → Mem → Prop} (h : es.length ≤ 99) (q : Q (.tup ((srt (ltP2 ltS ltI) (delE es w)).map encE)) []) : sp_without_entry [.tup ((srt (ltP2 ltS ltI) es).map encE), .str w] [] R Q := ⟨_, w, rfl, rfl, by rw [srt_len]; omega, by rw [sorted_del]; exact q⟩
theorem sp_folder_go {p : Addr} {es : List Ent} {ws : List Str} {n : Int} {R : Mem} {Q : D → Mem → Prop} {j : Nat} [h : At R p (Tb es) j] (nd : (es.map (·.1)).Nodup) (hl : es.length ≤ 99) (h0 : 0 < ws.length) (h1 : ws.length ≤ 100) (hw : ∀ w ∈ ws, Wd 8 w) (q : Q (.bl true) []) : sp_law_folder [.ref p, .lst (ws.map D.str), .int n] [] R Q := ⟨p, es, ws, n, rfl, rfl, List.mem_of_getElem? h.e, nd, hl, h0, h1, fun w z => (hw w z).len, q⟩
theorem sp_pieces_go {z : Str} {R : Mem} {Q : D → Mem → Prop} (h : z.length ≤ 16) (q : Q (.bl true) []) : sp_law_pieces [.str z] [] R Q := ⟨z, rfl, rfl, h, q⟩
theorem sp_file_go {p : Addr} {st : D} {n : Int} {R : Mem} {Q : D → Mem → Prop} (hs : DrawSt st) (q : ∀ st', DrawSt st' → Q (.bl true) [(p, st')]) : sp_law_file [.ref p, .int n] [(p, st)] R Q := ⟨p, st, n, rfl, rfl, hs, q⟩
instance IsdC.ent : IsdC encE 1 := ⟨fun m a h => by
  obtain ⟨k, rfl⟩ : ∃ k, m = k + 1 := ⟨m - 1, by omega⟩
  exact isd_two (isd_str _ _) (isd_int _ _)⟩
local macro_rules | `(tactic| row_cond dspec) => `(tactic| first
  | ((with_reducible refine' sp_entries_go ?a ?b ?_); (case a => assumption); (case b => first | assumption | omega))
  | ((with_reducible refine' sp_names_go ?a ?b ?c ?_); (case a => assumption); (case b => omega); (case c => omega))
  | ((with_reducible refine' sp_text_go ?a ?b ?c ?_); (case a => assumption); (case b => omega); (case c => omega))
  | (with_reducible refine sp_told_data ?_)
  | ((with_reducible refine' sp_with_go ?a ?b ?_); (case a => assumption); (case b => omega))
  | ((with_reducible refine' sp_without_go ?a ?_); (case a => omega))
  | ((with_reducible refine' sp_folder_go ?a ?b ?c ?d ?e ?_); (case a => assumption); (case b => omega); (case c => omega); (case d => omega); (case e => assumption))
  | ((with_reducible refine' sp_pieces_go ?a ?_); (case a => omega))
  | ((with_reducible refine' sp_file_go ?a ?_); (case a => assumption)))
theorem law_rest {P : Program} {w : World} {K : PySem.W.Frag} {mg : Str → Option Value} {base : Heap} (T : Tx mg) (c_law_names : Cal P w K mg base 3 "_law_names" sp_law_names) (c_law_next : Cal P w K mg base 2 "_law_next" sp_law_next) (c_law_text : Cal P w K mg base 3 "_law_text" sp_law_text) (c_law_entries : Cal P w K mg base 1 "_law_entries" sp_law_entries) (c_law_is : Cal P w K mg base 4 "_law_is" (sp_law_is 3)) (c_with_entry : Cal P w K mg base 1 "with_entry" sp_with_entry) (c_without_entry : Cal P w K mg base 1 "without_entry" sp_without_entry) (c_law_pieces : Cal P w K mg base 5 "_law_pieces" sp_law_pieces) (c_law_file : Cal P w K mg base 6 "_law_file" sp_law_file) (c_law_told_refs : Cal P w K mg base 5 "_law_told_refs" sp_law_told_refs) (c_law_folder : Cal P w K mg base 6 "_law_folder" sp_law_folder) (X : Cx) (F : Fr) (hX : In X P w K mg base 6) (nm : Nm X N_law (defScope s_law)) (p : Addr) (st : D) (hS : DrawSt st) : WSs X F (defBody s_law).tail ⟨none :: some (.ref p) :: List.replicate (N_law.length - 2) none, [(p, st)], []⟩ (outD fun d _ => d = .bl true) := by
  have hst := hX.std
  have n_script : NameAt X 0 "script" := nm.name rfl (.inl rfl) (by decide) (by decide)
  have s_script : StoreAt X 0 "script" := nm.store rfl (.inl rfl)
  have n_state : NameAt X 1 "state" := nm.name rfl (.inl rfl) (by decide) (by decide)
  have s_state : StoreAt X 1 "state" := nm.store rfl (.inl rfl)
  have n_words : NameAt X 2 "words" := nm.name rfl (.inl rfl) (by decide) (by decide)
  have s_words : StoreAt X 2 "words" := nm.store rfl (.inl rfl)
  have n_turns : NameAt X 3 "turns" := nm.name rfl (.inl rfl) (by decide) (by decide)
  have s_turns : StoreAt X 3 "turns" := nm.store rfl (.inl rfl)
  have n_texts : NameAt X 4 "texts" := nm.name rfl (.inl rfl) (by decide) (by decide)
  have s_texts : StoreAt X 4 "texts" := nm.store rfl (.inl rfl)
  have n_table : NameAt X 5 "table" := nm.name rfl (.inl rfl) (by decide) (by decide)
  have s_table : StoreAt X 5 "table" := nm.store rfl (.inl rfl)
  have n_k : NameAt X 6 "k" := nm.name rfl (.inl rfl) (by decide) (by decide)
  have s_k : StoreAt X 6 "k" := nm.store rfl (.inl rfl)
  have n_word : NameAt X 7 "word" := nm.name rfl (.inl rfl) (by decide) (by decide)
  have s_word : StoreAt X 7 "word" := nm.store rfl (.inl rfl)
  have n_slot : NameAt X 8 "slot" := nm.name rfl (.inl rfl) (by decide) (by decide)
  have s_slot : StoreAt X 8 "slot" := nm.store rfl (.inl rfl)
  have n_entries : NameAt X 9 "entries" := nm.name rfl (.inl rfl) (by decide) (by decide)
  have s_entries : StoreAt X 9 "entries" := nm.store rfl (.inl rfl)
  have n_told : NameAt X 10 "told" := nm.name rfl (.inl rfl) (by decide) (by decide)
  have s_told : StoreAt X 10 "told" := nm.store rfl (.inl rfl)
  have n_text : NameAt X 11 "text" := nm.name rfl (.inl rfl) (by decide) (by decide)
  have s_text : StoreAt X 11 "text" := nm.store rfl (.inl rfl)
  have g_law_start : Gl X "_law_start" := nm.gl rfl
  have g_law_names : Gl X "_law_names" := nm.gl rfl
  have g_law_next : Gl X "_law_next" := nm.gl rfl
  have g_law_text : Gl X "_law_text" := nm.gl rfl
  have g_law_is : Gl X "_law_is" := nm.gl rfl
  have k_CHUNK : ConAt X "CHUNK" (.int 4) := nm.con hX rfl T.k_CHUNK (by decide)
  have g_law_told_refs : Gl X "_law_told_refs" := nm.gl rfl
  have b_range : BltAt X "range" (.type "range") := nm.blt hX rfl T.z_range bo_range (by decide) (by decide)
  have b_len : BltAt X "len" (.builtin "len") := nm.blt hX rfl T.z_len bo_len (by decide) (by decide)
  have b_sorted : BltAt X "sorted" (.builtin "sorted") := nm.blt hX rfl T.z_sorted bo_sorted (by decide) (by decide)
  have g_law_entries : Gl X "_law_entries" := nm.gl rfl
  have g_with_entry : Gl X "with_entry" := nm.gl rfl
  have g_without_entry : Gl X "without_entry" := nm.gl rfl
  have g_law_folder : Gl X "_law_folder" := nm.gl rfl
  have g_law_pieces : Gl X "_law_pieces" := nm.gl rfl
  have g_law_file : Gl X "_law_file" := nm.gl rfl
  have m_range : X.mg "range" = none := by rw [hX.mg]; exact T.z_range
  show WSs X F _ ⟨[none, some (.ref p), none, none, none, none, none, none, none, none, none, none], [(p, st)], []⟩ _
  refine wss_cons ?_
  row_cond gon
  rename_i ws s1 hwl hww hs1
  have hw8 : ws.length = 8 := by omega
  clear hwl
  refine ws_mid (fun Γ => ∃ (st : D) (turns : Int), Γ = ⟨[none, some (.ref p), some (.lst (ws.map D.str)), some (.int turns), none, none, none, none, none, none, none, none], [(p, st)], []⟩ ∧ DrawSt st ∧ 0 ≤ turns ∧ turns ≤ 60) ?_ ?_
  · row_cond go
    all_goals exact ⟨_, _, rfl, by assumption, by omega, by omega⟩
  clear hs1 hS
  rintro Γ ⟨st, turns, rfl, hs, ht0, ht1⟩
  row_cond gon
  rename_i z1 s1 hz1 hs1 r2 s2 hr2 hr2' hs2 z2 s3 hz2 hs3 z3 s4 hz3 hs4 tx
  clear hs hs1 hs2 hs3
  have hz1 : z1.length ≤ 16 := by omega
  have hz2 : z2.length ≤ 16 := by omega
  have hz3 : z3.length ≤ 16 := by omega
  haveI : SzLe z1 16 := ⟨hz1⟩
  refine ws_mid (fun Γ => ∃ (st : D), Γ = ⟨[none, some (.ref p), some (.lst (ws.map D.str)), some (.int turns), some (.ref tx), none, none, none, none, none, none, none], [(tx, .lst [.str z1, .str z2, .str z3]), (p, st)], []⟩ ∧ DrawSt st) ?_ ?_
  · refine ws_wk ?_
    row_cond go
    refine sp_law_is_lst (ds := []) ⟨by simp, fun d h => by cases h⟩ ?_
    row_cond go
    exact ⟨_, wk_sub (.cons _ (.refl _)), _, rfl, by assumption⟩
  clear hs4
  rintro Γ ⟨st, rfl, hs⟩
  refine wss_cons ?_
  refine ws_mid (fun Γ => ∃ q, Γ = ⟨[none, some (.ref p), some (.lst (ws.map D.str)), some (.int turns), some (.ref tx), some (.ref q), none, none, none, none, none, none], [(q, Tb []), (tx, .lst [.str z1, .str z2, .str z3]), (p, st)], []⟩) ?_ ?_
  · row_cond go
    refine we_newK fun q => ?_
    row_cond go
    exact ⟨_, rfl⟩
  rintro Γ ⟨q, rfl⟩
  refine wss_cons ?_
  refine ws_mid (fun Γ => ∃ (st : D) (es : List Ent) (k w s e t : Option D), Γ = ⟨[none, some (.ref p), some (.lst (ws.map D.str)), some (.int turns), some (.ref tx), some (.ref q), k, w, s, e, t, none], [(q, Tb es), (tx, .lst [.str z1, .str z2, .str z3]), (p, st)], []⟩ ∧ DrawSt st) ?_ ?_
  · refine ws_for hst (fun _ => rfl) ?_
    row_cond go
    refine ⟨fun i Γ => ∃ (st : D) (es : List Ent) (k w s e t : Option D), Γ = ⟨[none, some (.ref p), some (.lst (ws.map D.str)), some (.int turns), some (.ref tx), some (.ref q), k, w, s, e, t, none], [(q, Tb es), (tx, .lst [.str z1, .str z2, .str z3]), (p, st)], []⟩ ∧ DrawSt st ∧ (es.map (·.1)).Nodup ∧ es.length ≤ i, ⟨_, [], _, _, _, _, _, rfl, hs, List.nodup_nil, Nat.le_refl _⟩, fun _ _ _ => trivial, fun i x Γ hx hW => ?_, fun Γ hW => ?_⟩
    · obtain ⟨st, es, k, w, s, e, t, rfl, hs, nd, hl⟩ := hW
      obtain ⟨hin, rfl⟩ := rngD_at hx
      row_cond gon
      rename_i r1 s1 hr1 hr1' hs1 wd hwd r2 s2 hr2 hr2' hs2
      have hwd8 := hww wd (List.mem_of_getElem? hwd)
      clear hs hs1
      have hl60 : es.length ≤ 60 := by omega
      refine ws_mid (fun Γ => ∃ (st : D) (v : Int), Γ = ⟨[none, some (.ref p), some (.lst (ws.map D.str)), some (.int turns), some (.ref tx), some (.ref q), some (.int (0 + (i : Int))), some (.str wd), some (.int v), e, t, none], [(q, Tb es), (tx, .lst [.str z1, .str z2, .str z3]), (p, st)], []⟩ ∧ DrawSt st) ?_ ?_
      · refine ws_wk ?_
        have hsl : (srt ltS (es.map (·.1))).length = es.length := by rw [srt_len, List.length_map]
        row_cond go
        · refine wx_map (by omega) (by rw [srt_len, List.length_map]; omega) fun y hy => ?_
          obtain ⟨e, he, hey⟩ := List.mem_map.mp (mem_srt.mp (List.mem_of_getElem? hy))
          have hg : getE es y = some e.2 := by rw [← hey]; exact getE_of nd he
          row_cond go
          exact ⟨_, wk_sub (.cons _ (.refl _)), _, _, rfl, by assumption⟩
        all_goals exact ⟨_, .refl _, _, _, rfl, by assumption⟩
      clear hs2
      rintro Γ ⟨st, v, rfl, hs⟩
      row_cond gon
      refine ws_mid (fun Γ => ∃ (st : D) (es' : List Ent), Γ = ⟨[none, some (.ref p), some (.lst (ws.map D.str)), some (.int turns), some (.ref tx), some (.ref q), some (.int (0 + (i : Int))), some (.str wd), some (.int v), some (.tup ((srt (ltP2 ltS ltI) es).map encE)), some (.tup ((srt (ltP2 ltS ltI) es').map encE)), none], [(q, Tb es'), (tx, .lst [.str z1, .str z2, .str z3]), (p, st)], []⟩ ∧ DrawSt st ∧ (es'.map (·.1)).Nodup ∧ es'.length ≤ i + 1) ?_ ?_
      · row_cond go
        · exact ⟨_, _, rfl, by assumption, putE_nodup nd _ _, Nat.le_trans (putE_len _ _ _) (by omega)⟩
        refine ⟨fun hc => ?_, fun hc => ?_⟩
        · obtain ⟨b, hb⟩ := Option.isSome_iff_exists.mp hc
          row_cond go
          exact ⟨_, _, rfl, by assumption, delE_nodup nd _, Nat.le_trans (List.length_filter_le _ _) (by omega)⟩
        · have hn : delE es wd = es := by
            unfold delE
            rw [List.filter_eq_self]
            intro e he
            rw [getE_some, decide_eq_false_iff_not] at hc
            have : e.1 ≠ wd := fun z => hc (z ▸ List.mem_map_of_mem (f := Prod.fst) he)
            simpa using this
          row_cond go
          rw [hn]
          exact ⟨_, _, rfl, by assumption, nd, by omega⟩
      clear hs
      rintro Γ ⟨st, es', rfl, hs, nd', hl'⟩
      have hsz : (srt (ltP2 ltS ltI) es').length ≤ 16777216 := by rw [srt_len]; omega
      row_cond go
      exact ⟨_, _, _, _, _, _, _, rfl, hs, nd', hl'⟩
    · obtain ⟨st, es, k, w, s, e, t, rfl, hs, nd, hl⟩ := hW
      exact ⟨_, _, _, _, _, _, _, rfl, hs⟩
  clear hs
  rintro Γ ⟨st, es, k, w, s, e, t, rfl, hs⟩
  refine wss_cons ?_
  refine ws_mid (fun Γ => ∃ u, Γ = ⟨[none, some (.ref p), some (.lst (ws.map D.str)), some (.int turns), some (.ref tx), some (.ref q), k, w, s, e, t, u], [(q, Tb es), (tx, .lst [.str z1, .str z2, .str z3]), (p, st)], []⟩) ?_ ?_
  · refine ws_for hst (fun _ => rfl) ?_
    row_cond go
    refine ⟨fun i Γ => ∃ u, Γ = ⟨[none, some (.ref p), some (.lst (ws.map D.str)), some (.int turns), some (.ref tx), some (.ref q), k, w, s, e, t, u], [(q, Tb es), (tx, .lst [.str z1, .str z2, .str z3]), (p, st)], []⟩, ⟨_, rfl⟩, ?_, ?_, ?_⟩
    · rintro i Γ ⟨u, rfl⟩
      exact (inferInstance : SeeL _ _ _ _).see
    · rintro i x Γ hx ⟨u, rfl⟩
      obtain ⟨z, rfl, hz⟩ : ∃ z : Str, x = .str z ∧ z.length ≤ 16 := by
        have := List.mem_of_getElem? hx
        simp only [List.mem_cons, List.not_mem_nil, or_false] at this
        rcases this with rfl | rfl | rfl
        · exact ⟨_, rfl, hz1⟩
        · exact ⟨_, rfl, hz2⟩
        · exact ⟨_, rfl, hz3⟩
      row_cond go
      exact ⟨_, rfl⟩
    · rintro Γ ⟨u, rfl⟩
      exact ⟨_, rfl⟩
  rintro Γ ⟨u, rfl⟩
  refine wss_cons ?_
  refine ws_for hst (fun _ => rfl) ?_
  row_cond go
  refine ⟨fun i Γ => ∃ st k, Γ = ⟨[none, some (.ref p), some (.lst (ws.map D.str)), some (.int turns), some (.ref tx), some (.ref q), k, w, s, e, t, u], [(q, Tb es), (tx, .lst [.str z1, .str z2, .str z3]), (p, st)], []⟩ ∧ DrawSt st, ⟨_, _, rfl, hs⟩, fun _ _ _ => trivial, ?_, ?_⟩
  · rintro i x Γ hx ⟨st, k, rfl, hs⟩
    obtain ⟨hin, rfl⟩ := rngD_at hx
    row_cond go
    exact ⟨_, _, rfl, by assumption⟩
  · rintro Γ ⟨st, k, rfl, hs⟩
    row_cond go
    refine rt0 (P := fun d _ => d = .bl true) ?_
    rfl

end K18


namespace K18
open PySem PySem.Spec PyProof.Rows L2 DL
theorem all_mk {l : PySem.W.OpenLaw} {w : World} {K : PySem.W.Frag} {h : Heap} {mg : Str → Option Value} {fa : Addr} (X : K.In h) (G : h.Ns mainGlobals mg) (hfa : mg "law" = some (.ref fa))
    {f_chunks : Addr} {od_chunks an_chunks : Option Addr} {sl_chunks : Array (Option Value)} {oc_chunks dc_chunks pm_chunks cd_chunks ct_chunks : Value} {kD_chunks : Addr} {u_chunks_size : Value}
    (a_chunks : PySem.W.nsIn K mainGlobals "chunks" = some (some (.ref f_chunks))) (l_chunks : K.lookup f_chunks = some ⟨oc_chunks, od_chunks, .func (PySem.W.fnOf "chunks" "chunks" (defArgs s_chunks) (defBody s_chunks) (defScope s_chunks) .none (.ref kD_chunks) dc_chunks pm_chunks an_chunks cd_chunks ct_chunks), sl_chunks⟩) (c_chunks : PySem.W.codeIn K cd_chunks "chunks" = true) (k_chunks : PySem.W.keepIn K (.ref f_chunks) = true)
    (w_chunks_size : PySem.W.nsIn K kD_chunks "size" = some (some u_chunks_size)) (r_chunks_size : RelV (.int 4) u_chunks_size)
    {f_refs : Addr} {od_refs an_refs : Option Addr} {sl_refs : Array (Option Value)} {oc_refs kV_refs dc_refs pm_refs cd_refs ct_refs : Value}
    (a_refs : PySem.W.nsIn K mainGlobals "refs" = some (some (.ref f_refs))) (l_refs : K.lookup f_refs = some ⟨oc_refs, od_refs, .func (PySem.W.fnOf "refs" "refs" (defArgs s_refs) (defBody s_refs) (defScope s_refs) .none kV_refs dc_refs pm_refs an_refs cd_refs ct_refs), sl_refs⟩) (c_refs : PySem.W.codeIn K cd_refs "refs" = true) (k_refs : PySem.W.keepIn K (.ref f_refs) = true)
    {f_find_entry : Addr} {od_find_entry an_find_entry : Option Addr} {sl_find_entry : Array (Option Value)} {oc_find_entry kV_find_entry dc_find_entry pm_find_entry cd_find_entry ct_find_entry : Value}
    (a_find_entry : PySem.W.nsIn K mainGlobals "find_entry" = some (some (.ref f_find_entry))) (l_find_entry : K.lookup f_find_entry = some ⟨oc_find_entry, od_find_entry, .func (PySem.W.fnOf "find_entry" "find_entry" (defArgs s_find_entry) (defBody s_find_entry) (defScope s_find_entry) .none kV_find_entry dc_find_entry pm_find_entry an_find_entry cd_find_entry ct_find_entry), sl_find_entry⟩) (c_find_entry : PySem.W.codeIn K cd_find_entry "find_entry" = true) (k_find_entry : PySem.W.keepIn K (.ref f_find_entry) = true)
    {f_with_entry : Addr} {od_with_entry an_with_entry : Option Addr} {sl_with_entry : Array (Option Value)} {oc_with_entry kV_with_entry dc_with_entry pm_with_entry cd_with_entry ct_with_entry : Value}
    (a_with_entry : PySem.W.nsIn K mainGlobals "with_entry" = some (some (.ref f_with_entry))) (l_with_entry : K.lookup f_with_entry = some ⟨oc_with_entry, od_with_entry, .func (PySem.W.fnOf "with_entry" "with_entry" (defArgs s_with_entry) (defBody s_with_entry) (defScope s_with_entry) .none kV_with_entry dc_with_entry pm_with_entry an_with_entry cd_with_entry ct_with_entry), sl_with_entry⟩) (c_with_entry : PySem.W.codeIn K cd_with_entry "with_entry" = true) (k_with_entry : PySem.W.keepIn K (.ref f_with_entry) = true)
    {f_without_entry : Addr} {od_without_entry an_without_entry : Option Addr} {sl_without_entry : Array (Option Value)} {oc_without_entry kV_without_entry dc_without_entry pm_without_entry cd_without_entry ct_without_entry : Value}
    (a_without_entry : PySem.W.nsIn K mainGlobals "without_entry" = some (some (.ref f_without_entry))) (l_without_entry : K.lookup f_without_entry = some ⟨oc_without_entry, od_without_entry, .func (PySem.W.fnOf "without_entry" "without_entry" (defArgs s_without_entry) (defBody s_without_entry) (defScope s_without_entry) .none kV_without_entry dc_without_entry pm_without_entry an_without_entry cd_without_entry ct_without_entry), sl_without_entry⟩) (c_without_entry : PySem.W.codeIn K cd_without_entry "without_entry" = true) (k_without_entry : PySem.W.keepIn K (.ref f_without_entry) = true)
    {f_law_mix : Addr} {od_law_mix an_law_mix : Option Addr} {sl_law_mix : Array (Option Value)} {oc_law_mix kV_law_mix dc_law_mix pm_law_mix cd_law_mix ct_law_mix : Value}
    (a_law_mix : PySem.W.nsIn K mainGlobals "_law_mix" = some (some (.ref f_law_mix))) (l_law_mix : K.lookup f_law_mix = some ⟨oc_law_mix, od_law_mix, .func (PySem.W.fnOf "_law_mix" "_law_mix" (defArgs s_law_mix) (defBody s_law_mix) (defScope s_law_mix) .none kV_law_mix dc_law_mix pm_law_mix an_law_mix cd_law_mix ct_law_mix), sl_law_mix⟩) (c_law_mix : PySem.W.codeIn K cd_law_mix "_law_mix" = true) (k_law_mix : PySem.W.keepIn K (.ref f_law_mix) = true)
    {f_law_start : Addr} {od_law_start an_law_start : Option Addr} {sl_law_start : Array (Option Value)} {oc_law_start kV_law_start dc_law_start pm_law_start cd_law_start ct_law_start : Value}
    (a_law_start : PySem.W.nsIn K mainGlobals "_law_start" = some (some (.ref f_law_start))) (l_law_start : K.lookup f_law_start = some ⟨oc_law_start, od_law_start, .func (PySem.W.fnOf "_law_start" "_law_start" (defArgs s_law_start) (defBody s_law_start) (defScope s_law_start) .none kV_law_start dc_law_start pm_law_start an_law_start cd_law_start ct_law_start), sl_law_start⟩) (c_law_start : PySem.W.codeIn K cd_law_start "_law_start" = true) (k_law_start : PySem.W.keepIn K (.ref f_law_start) = true)
    {f_law_next : Addr} {od_law_next an_law_next : Option Addr} {sl_law_next : Array (Option Value)} {oc_law_next kV_law_next dc_law_next pm_law_next cd_law_next ct_law_next : Value}
    (a_law_next : PySem.W.nsIn K mainGlobals "_law_next" = some (some (.ref f_law_next))) (l_law_next : K.lookup f_law_next = some ⟨oc_law_next, od_law_next, .func (PySem.W.fnOf "_law_next" "_law_next" (defArgs s_law_next) (defBody s_law_next) (defScope s_law_next) .none kV_law_next dc_law_next pm_law_next an_law_next cd_law_next ct_law_next), sl_law_next⟩) (c_law_next : PySem.W.codeIn K cd_law_next "_law_next" = true) (k_law_next : PySem.W.keepIn K (.ref f_law_next) = true)
    {f_law_is : Addr} {od_law_is an_law_is : Option Addr} {sl_law_is : Array (Option Value)} {oc_law_is kV_law_is dc_law_is pm_law_is cd_law_is ct_law_is : Value}
    (a_law_is : PySem.W.nsIn K mainGlobals "_law_is" = some (some (.ref f_law_is))) (l_law_is : K.lookup f_law_is = some ⟨oc_law_is, od_law_is, .func (PySem.W.fnOf "_law_is" "_law_is" (defArgs s_law_is) (defBody s_law_is) (defScope s_law_is) .none kV_law_is dc_law_is pm_law_is an_law_is cd_law_is ct_law_is), sl_law_is⟩) (c_law_is : PySem.W.codeIn K cd_law_is "_law_is" = true) (k_law_is : PySem.W.keepIn K (.ref f_law_is) = true)
    {f_law_names : Addr} {od_law_names an_law_names : Option Addr} {sl_law_names : Array (Option Value)} {oc_law_names kV_law_names dc_law_names pm_law_names cd_law_names ct_law_names : Value}
    (a_law_names : PySem.W.nsIn K mainGlobals "_law_names" = some (some (.ref f_law_names))) (l_law_names : K.lookup f_law_names = some ⟨oc_law_names, od_law_names, .func (PySem.W.fnOf "_law_names" "_law_names" (defArgs s_law_names) (defBody s_law_names) (defScope s_law_names) .none kV_law_names dc_law_names pm_law_names an_law_names cd_law_names ct_law_names), sl_law_names⟩) (c_law_names : PySem.W.codeIn K cd_law_names "_law_names" = true) (k_law_names : PySem.W.keepIn K (.ref f_law_names) = true)
    {f_law_text : Addr} {od_law_text an_law_text : Option Addr} {sl_law_text : Array (Option Value)} {oc_law_text kV_law_text dc_law_text pm_law_text cd_law_text ct_law_text : Value}
    (a_law_text : PySem.W.nsIn K mainGlobals "_law_text" = some (some (.ref f_law_text))) (l_law_text : K.lookup f_law_text = some ⟨oc_law_text, od_law_text, .func (PySem.W.fnOf "_law_text" "_law_text" (defArgs s_law_text) (defBody s_law_text) (defScope s_law_text) .none kV_law_text dc_law_text pm_law_text an_law_text cd_law_text ct_law_text), sl_law_text⟩) (c_law_text : PySem.W.codeIn K cd_law_text "_law_text" = true) (k_law_text : PySem.W.keepIn K (.ref f_law_text) = true)
    {f_law_entries : Addr} {od_law_entries an_law_entries : Option Addr} {sl_law_entries : Array (Option Value)} {oc_law_entries kV_law_entries dc_law_entries pm_law_entries cd_law_entries ct_law_entries : Value}
    (a_law_entries : PySem.W.nsIn K mainGlobals "_law_entries" = some (some (.ref f_law_entries))) (l_law_entries : K.lookup f_law_entries = some ⟨oc_law_entries, od_law_entries, .func (PySem.W.fnOf "_law_entries" "_law_entries" (defArgs s_law_entries) (defBody s_law_entries) (defScope s_law_entries) .none kV_law_entries dc_law_entries pm_law_entries an_law_entries cd_law_entries ct_law_entries), sl_law_entries⟩) (c_law_entries : PySem.W.codeIn K cd_law_entries "_law_entries" = true) (k_law_entries : PySem.W.keepIn K (.ref f_law_entries) = true)
    {f_law_told_refs : Addr} {od_law_told_refs an_law_told_refs : Option Addr} {sl_law_told_refs : Array (Option Value)} {oc_law_told_refs kV_law_told_refs dc_law_told_refs pm_law_told_refs cd_law_told_refs ct_law_told_refs : Value}
    (a_law_told_refs : PySem.W.nsIn K mainGlobals "_law_told_refs" = some (some (.ref f_law_told_refs))) (l_law_told_refs : K.lookup f_law_told_refs = some ⟨oc_law_told_refs, od_law_told_refs, .func (PySem.W.fnOf "_law_told_refs" "_law_told_refs" (defArgs s_law_told_refs) (defBody s_law_told_refs) (defScope s_law_told_refs) .none kV_law_told_refs dc_law_told_refs pm_law_told_refs an_law_told_refs cd_law_told_refs ct_law_told_refs), sl_law_told_refs⟩) (c_law_told_refs : PySem.W.codeIn K cd_law_told_refs "_law_told_refs" = true) (k_law_told_refs : PySem.W.keepIn K (.ref f_law_told_refs) = true)
    {f_law_folder : Addr} {od_law_folder an_law_folder : Option Addr} {sl_law_folder : Array (Option Value)} {oc_law_folder kV_law_folder dc_law_folder pm_law_folder cd_law_folder ct_law_folder : Value}
    (a_law_folder : PySem.W.nsIn K mainGlobals "_law_folder" = some (some (.ref f_law_folder))) (l_law_folder : K.lookup f_law_folder = some ⟨oc_law_folder, od_law_folder, .func (PySem.W.fnOf "_law_folder" "_law_folder" (defArgs s_law_folder) (defBody s_law_folder) (defScope s_law_folder) .none kV_law_folder dc_law_folder pm_law_folder an_law_folder cd_law_folder ct_law_folder), sl_law_folder⟩) (c_law_folder : PySem.W.codeIn K cd_law_folder "_law_folder" = true) (k_law_folder : PySem.W.keepIn K (.ref f_law_folder) = true)
    {f_law_file : Addr} {od_law_file an_law_file : Option Addr} {sl_law_file : Array (Option Value)} {oc_law_file kV_law_file dc_law_file pm_law_file cd_law_file ct_law_file : Value}
    (a_law_file : PySem.W.nsIn K mainGlobals "_law_file" = some (some (.ref f_law_file))) (l_law_file : K.lookup f_law_file = some ⟨oc_law_file, od_law_file, .func (PySem.W.fnOf "_law_file" "_law_file" (defArgs s_law_file) (defBody s_law_file) (defScope s_law_file) .none kV_law_file dc_law_file pm_law_file an_law_file cd_law_file ct_law_file), sl_law_file⟩) (c_law_file : PySem.W.codeIn K cd_law_file "_law_file" = true) (k_law_file : PySem.W.keepIn K (.ref f_law_file) = true)
    {f_law_pieces : Addr} {od_law_pieces an_law_pieces : Option Addr} {sl_law_pieces : Array (Option Value)} {oc_law_pieces kV_law_pieces dc_law_pieces pm_law_pieces cd_law_pieces ct_law_pieces : Value}
    (a_law_pieces : PySem.W.nsIn K mainGlobals "_law_pieces" = some (some (.ref f_law_pieces))) (l_law_pieces : K.lookup f_law_pieces = some ⟨oc_law_pieces, od_law_pieces, .func (PySem.W.fnOf "_law_pieces" "_law_pieces" (defArgs s_law_pieces) (defBody s_law_pieces) (defScope s_law_pieces) .none kV_law_pieces dc_law_pieces pm_law_pieces an_law_pieces cd_law_pieces ct_law_pieces), sl_law_pieces⟩) (c_law_pieces : PySem.W.codeIn K cd_law_pieces "_law_pieces" = true) (k_law_pieces : PySem.W.keepIn K (.ref f_law_pieces) = true)
    {f_law : Addr} {od_law an_law : Option Addr} {sl_law : Array (Option Value)} {oc_law kV_law dc_law pm_law cd_law ct_law : Value}
    (a_law : PySem.W.nsIn K mainGlobals "law" = some (some (.ref f_law))) (l_law : K.lookup f_law = some ⟨oc_law, od_law, .func (PySem.W.fnOf "law" "law" (defArgs s_law) (defBody s_law) (defScope s_law) .none kV_law dc_law pm_law an_law cd_law ct_law), sl_law⟩) (c_law : PySem.W.codeIn K cd_law "law" = true) (k_law : PySem.W.keepIn K (.ref f_law) = true)
    (z_abs : PySem.W.nsIn K mainGlobals "abs" = some none)
    (z_all : PySem.W.nsIn K mainGlobals "all" = some none)
    (z_bool : PySem.W.nsIn K mainGlobals "bool" = some none)
    (z_dict : PySem.W.nsIn K mainGlobals "dict" = some none)
    (z_int : PySem.W.nsIn K mainGlobals "int" = some none)
    (z_isinstance : PySem.W.nsIn K mainGlobals "isinstance" = some none)
    (z_len : PySem.W.nsIn K mainGlobals "len" = some none)
    (z_list : PySem.W.nsIn K mainGlobals "list" = some none)
    (z_range : PySem.W.nsIn K mainGlobals "range" = some none)
    (z_set : PySem.W.nsIn K mainGlobals "set" = some none)
    (z_sorted : PySem.W.nsIn K mainGlobals "sorted" = some none)
    (z_str : PySem.W.nsIn K mainGlobals "str" = some none)
    (z_tuple : PySem.W.nsIn K mainGlobals "tuple" = some none)
    {u_CHUNK : Value} (w_CHUNK : PySem.W.nsIn K mainGlobals "CHUNK" = some (some u_CHUNK)) (r_CHUNK : RelV (.int 4) u_CHUNK)
    : ∃ fd : FuncData, (∀ (s : Shared) (v : Value), BindsTo s fd ⟨[v], []⟩ [("script", v)]) ∧ ∀ base : Heap, K.In base → base.Ns mainGlobals mg → FnOk l.prog w K mg base CX0 7 fa fd ["script"] (spLaw K) := by
  have e := hfa.symm.trans (PySem.W.mg_of X G a_law)
  cases e
  have F_law := fun_mk (st := s_law) l_law c_law k_law
  have F_law_start := fun_mk (st := s_law_start) l_law_start c_law_start k_law_start
  have D_chunks : DefAtD K mg "chunks" s_chunks [] [("size", (.int 4))] := ⟨_, _, ⟨⟨_, _, _, _, _, _, _, _, _, _, rfl, l_chunks, c_chunks, .inl ⟨rfl, rfl⟩, .inr ⟨_, rfl, fun q hq => by
    have hq2 := List.mem_singleton.mp hq
    subst hq2
    exact ⟨_, w_chunks_size, r_chunks_size⟩⟩⟩, k_chunks⟩, PySem.W.mg_of X G a_chunks⟩
  have D_refs : DefAt K mg "refs" s_refs := ⟨_, _, fun_mk (st := s_refs) l_refs c_refs k_refs, PySem.W.mg_of X G a_refs⟩
  have D_find_entry : DefAt K mg "find_entry" s_find_entry := ⟨_, _, fun_mk (st := s_find_entry) l_find_entry c_find_entry k_find_entry, PySem.W.mg_of X G a_find_entry⟩
  have D_with_entry : DefAt K mg "with_entry" s_with_entry := ⟨_, _, fun_mk (st := s_with_entry) l_with_entry c_with_entry k_with_entry, PySem.W.mg_of X G a_with_entry⟩
  have D_without_entry : DefAt K mg "without_entry" s_without_entry := ⟨_, _, fun_mk (st := s_without_entry) l_without_entry c_without_entry k_without_entry, PySem.W.mg_of X G a_without_entry⟩
  have D_law_mix : DefAt K mg "_law_mix" s_law_mix := ⟨_, _, fun_mk (st := s_law_mix) l_law_mix c_law_mix k_law_mix, PySem.W.mg_of X G a_law_mix⟩
  have D_law_next : DefAt K mg "_law_next" s_law_next := ⟨_, _, fun_mk (st := s_law_next) l_law_next c_law_next k_law_next, PySem.W.mg_of X G a_law_next⟩
  have D_law_is : DefAt K mg "_law_is" s_law_is := ⟨_, _, fun_mk (st := s_law_is) l_law_is c_law_is k_law_is, PySem.W.mg_of X G a_law_is⟩
  have D_law_names : DefAt K mg "_law_names" s_law_names := ⟨_, _, fun_mk (st := s_law_names) l_law_names c_law_names k_law_names, PySem.W.mg_of X G a_law_names⟩
  have D_law_text : DefAt K mg "_law_text" s_law_text := ⟨_, _, fun_mk (st := s_law_text) l_law_text c_law_text k_law_text, PySem.W.mg_of X G a_law_text⟩
  have D_law_entries : DefAt K mg "_law_entries" s_law_entries := ⟨_, _, fun_mk (st := s_law_entries) l_law_entries c_law_entries k_law_entries, PySem.W.mg_of X G a_law_entries⟩
  have D_law_told_refs : DefAt K mg "_law_told_refs" s_law_told_refs := ⟨_, _, fun_mk (st := s_law_told_refs) l_law_told_refs c_law_told_refs k_law_told_refs, PySem.W.mg_of X G a_law_told_refs⟩
  have D_law_folder : DefAt K mg "_law_folder" s_law_folder := ⟨_, _, fun_mk (st := s_law_folder) l_law_folder c_law_folder k_law_folder, PySem.W.mg_of X G a_law_folder⟩
  have D_law_file : DefAt K mg "_law_file" s_law_file := ⟨_, _, fun_mk (st := s_law_file) l_law_file c_law_file k_law_file, PySem.W.mg_of X G a_law_file⟩
  have D_law_pieces : DefAt K mg "_law_pieces" s_law_pieces := ⟨_, _, fun_mk (st := s_law_pieces) l_law_pieces c_law_pieces k_law_pieces, PySem.W.mg_of X G a_law_pieces⟩
  have T : Tx mg := ⟨PySem.W.mg_none_of X G z_abs, PySem.W.mg_none_of X G z_all, PySem.W.mg_none_of X G z_bool, PySem.W.mg_none_of X G z_dict, PySem.W.mg_none_of X G z_int, PySem.W.mg_none_of X G z_isinstance, PySem.W.mg_none_of X G z_len, PySem.W.mg_none_of X G z_list, PySem.W.mg_none_of X G z_range, PySem.W.mg_none_of X G z_set, PySem.W.mg_none_of X G z_sorted, PySem.W.mg_none_of X G z_str, PySem.W.mg_none_of X G z_tuple, ⟨_, PySem.W.mg_of X G w_CHUNK, r_CHUNK⟩⟩
  refine ⟨_, fun s v => ?_, fun base _ _ => ok_law T F_law F_law_start (PySem.W.mg_of X G a_law_start) (by decide) ?_⟩
  · exact .of_eq rfl
  · have c_law_mix := cal_law_mix (P := l.prog) (w := w) (base := base) T D_law_mix
    have c_law_next := cal_law_next T D_law_next c_law_mix
    have c_law_is := cal_law_isS T D_law_is (cal_law_isS T D_law_is (cal_law_isS T D_law_is (cal_law_is0 (P := l.prog) (w := w) (base := base) T D_law_is)))
    have c_refs := cal_refs (P := l.prog) (w := w) (base := base) T D_refs
    have c_find_entry := cal_find_entry (P := l.prog) (w := w) (base := base) T D_find_entry
    have c_with_entry := cal_with_entry (P := l.prog) (w := w) (base := base) T D_with_entry
    have c_without_entry := cal_without_entry (P := l.prog) (w := w) (base := base) T D_without_entry
    obtain ⟨c_chunks, ck_chunks⟩ := cal_chunks (P := l.prog) (w := w) (base := base) T D_chunks
    have c_law_names := cal_law_names T D_law_names c_law_next
    have c_law_text := cal_law_text T D_law_text c_law_next
    have c_law_entries := cal_law_entries (P := l.prog) (w := w) (base := base) T D_law_entries
    have c_law_told_refs := cal_law_told_refs T D_law_told_refs c_refs c_law_is
    have c_law_folder := cal_law_folder T D_law_folder c_law_entries c_law_is c_law_told_refs c_find_entry
    have c_law_file := cal_law_file T D_law_file c_law_next c_law_is c_law_told_refs
    have c_law_pieces := cal_law_pieces T D_law_pieces c_law_is c_chunks ck_chunks
    exact law_rest T c_law_names c_law_next c_law_text c_law_entries c_law_is c_with_entry c_without_entry c_law_pieces c_law_file c_law_told_refs c_law_folder

end K18
open PySem PySem.W PyProof.Rows
set_option maxHeartbeats 0 in
theorem PySem.Challenge.cw_whatcomesfree_k18_records_and_entries_holds : PySem.Challenge.rw_whatcomesfree_k18_records_and_entries.Holds := by
  w_on; o_law; k_head; (case hw => w_witness2)
  k_fill
  refine L2.walk_of (l := PySem.Challenge.rw_whatcomesfree_k18_records_and_entries) (n := 63) (k := 7) (x := "script") (CX := fun _ => L2.CX0) (sp := fun w => DL.spLaw _) rfl (by decide) rfl ⟨rfl, by decide, by decide⟩ (fun w h Y => PySem.W.kIn_of Y) ?F (fun _ _ a ns hl _ hS => ⟨a, ns, rfl, hS, hl, fun _ => rfl⟩) (fun _ _ _ _ _ h => h)
  case F =>
    intro w mg fa h KX G hmg
    refine' K18.all_mk KX G hmg ?a_chunks ?l_chunks ?c_chunks ?k_chunks ?w_chunks_size ?r_chunks_size ?a_refs ?l_refs ?c_refs ?k_refs ?a_find_entry ?l_find_entry ?c_find_entry ?k_find_entry ?a_with_entry ?l_with_entry ?c_with_entry ?k_with_entry ?a_without_entry ?l_without_entry ?c_without_entry ?k_without_entry ?a_law_mix ?l_law_mix ?c_law_mix ?k_law_mix ?a_law_start ?l_law_start ?c_law_start ?k_law_start ?a_law_next ?l_law_next ?c_law_next ?k_law_next ?a_law_is ?l_law_is ?c_law_is ?k_law_is ?a_law_names ?l_law_names ?c_law_names ?k_law_names ?a_law_text ?l_law_text ?c_law_text ?k_law_text ?a_law_entries ?l_law_entries ?c_law_entries ?k_law_entries ?a_law_told_refs ?l_law_told_refs ?c_law_told_refs ?k_law_told_refs ?a_law_folder ?l_law_folder ?c_law_folder ?k_law_folder ?a_law_file ?l_law_file ?c_law_file ?k_law_file ?a_law_pieces ?l_law_pieces ?c_law_pieces ?k_law_pieces ?a_law ?l_law ?c_law ?k_law ?z_abs ?z_all ?z_bool ?z_dict ?z_int ?z_isinstance ?z_len ?z_list ?z_range ?z_set ?z_sorted ?z_str ?z_tuple ?w_CHUNK ?r_CHUNK
    (case a_chunks => k_is); (case l_chunks => k_is); (case c_chunks => k_is); (case k_chunks => k_is); (case w_chunks_size => k_is); (case r_chunks_size => exact ⟨_, rfl⟩); (case a_refs => k_is); (case l_refs => k_is); (case c_refs => k_is); (case k_refs => k_is); (case a_find_entry => k_is); (case l_find_entry => k_is); (case c_find_entry => k_is); (case k_find_entry => k_is); (case a_with_entry => k_is); (case l_with_entry => k_is); (case c_with_entry => k_is); (case k_with_entry => k_is); (case a_without_entry => k_is); (case l_without_entry => k_is); (case c_without_entry => k_is); (case k_without_entry => k_is); (case a_law_mix => k_is); (case l_law_mix => k_is); (case c_law_mix => k_is); (case k_law_mix => k_is); (case a_law_start => k_is); (case l_law_start => k_is); (case c_law_start => k_is); (case k_law_start => k_is); (case a_law_next => k_is); (case l_law_next => k_is); (case c_law_next => k_is); (case k_law_next => k_is); (case a_law_is => k_is); (case l_law_is => k_is); (case c_law_is => k_is); (case k_law_is => k_is); (case a_law_names => k_is); (case l_law_names => k_is); (case c_law_names => k_is); (case k_law_names => k_is); (case a_law_text => k_is); (case l_law_text => k_is); (case c_law_text => k_is); (case k_law_text => k_is); (case a_law_entries => k_is); (case l_law_entries => k_is); (case c_law_entries => k_is); (case k_law_entries => k_is); (case a_law_told_refs => k_is); (case l_law_told_refs => k_is); (case c_law_told_refs => k_is); (case k_law_told_refs => k_is); (case a_law_folder => k_is); (case l_law_folder => k_is); (case c_law_folder => k_is); (case k_law_folder => k_is); (case a_law_file => k_is); (case l_law_file => k_is); (case c_law_file => k_is); (case k_law_file => k_is); (case a_law_pieces => k_is); (case l_law_pieces => k_is); (case c_law_pieces => k_is); (case k_law_pieces => k_is); (case a_law => k_is); (case l_law => k_is); (case c_law => k_is); (case k_law => k_is); (case z_abs => k_is); (case z_all => k_is); (case z_bool => k_is); (case z_dict => k_is); (case z_int => k_is); (case z_isinstance => k_is); (case z_len => k_is); (case z_list => k_is); (case z_range => k_is); (case z_set => k_is); (case z_sorted => k_is); (case z_str => k_is); (case z_tuple => k_is); (case w_CHUNK => k_is); (case r_CHUNK => exact ⟨_, rfl⟩)


