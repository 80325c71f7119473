import PyProof.Rows.All
import Wide.All
import OpenK.AllK
import Wide.FinOn
import HandS.ForMost
import HandS.Style
import HandS.IsInst
import HandS.Wide
import KE.SortData
import KE.DataMinMax
import KE.DataCmp
import KE.DataFind
import HandS.Set
import HandS.SetFor
import HandS.Codes
import HandS.Replace
import HandS.SetBool
import HandS.Defaults
import HandS.Iter
import KE.OsScanText
import HandS.WordsDict
import HandS.TupLen
import HandS.DictComp
import HandS.Star
import HandS.Conv
import HandS.More
import PySem.Challenge.RW_whatcomesfree_k50_reduced_cases
set_option Elab.async false
set_option linter.all false
set_option maxRecDepth 100000
set_option maxHeartbeats 4000000
set_option autoImplicit false
/-! The D layer, part 1: plain data over the hand layer's heap; expressions, tests, statements by what they do to plain data. -/
namespace DL
open PySem PySem.Spec PyProof.Rows L2

/-! ### plain data -/
inductive D where
  | non | bl (b : Bool) | int (i : Int) | str (x : Str) | ref (p : Addr) | ty (n : String)
  | tup (ds : List D) | lst (ds : List D)
  | dK (kvs : List (Key × D)) | dT (kvs : List (List Key × D))
  | st (ks : List Key)
  | ins (C : Addr) (fs : List (Str × D))

/-- a value over shared (never changing) objects stands for data -/
inductive Rep (G : Hp) : V → D → Prop where
  | non : Rep G .non .non
  | bl (b : Bool) : Rep G (.bl b) (.bl b)
  | int (i : Int) : Rep G (.int i) (.int i)
  | str (x : Str) : Rep G (.str x) (.str x)
  | ref (p : Addr) : Rep G (.ref p) (.ref p)
  | ty (n : String) : Rep G (.ty n) (.ty n)
  | tup {p : Addr} {vs : List V} {ds : List D} : G p = some (.tup vs) → vs.length = ds.length → (∀ (i : Nat) v d, vs[i]? = some v → ds[i]? = some d → Rep G v d) → Rep G (.ref p) (.tup ds)
  | lst {p : Addr} {vs : List V} {ds : List D} : G p = some (.lst vs) → vs.length = ds.length → (∀ (i : Nat) v d, vs[i]? = some v → ds[i]? = some d → Rep G v d) → Rep G (.ref p) (.lst ds)

def Reps (G : Hp) (vs : List V) (ds : List D) : Prop := vs.length = ds.length ∧ ∀ (i : Nat) v d, vs[i]? = some v → ds[i]? = some d → Rep G v d

theorem Rep.mono {G G' : Hp} (e : Same G G') {v : V} {d : D} (h : Rep G v d) : Rep G' v d := by
  induction h with
  | non => exact .non
  | bl b => exact .bl b
  | int i => exact .int i
  | str x => exact .str x
  | ref p => exact .ref p
  | ty n => exact .ty n
  | tup h l _ ih => exact .tup (e _ _ h) l ih
  | lst h l _ ih => exact .lst (e _ _ h) l ih
theorem Reps.mono {G G' : Hp} (e : Same G G') {vs : List V} {ds : List D} (h : Reps G vs ds) : Reps G' vs ds := ⟨h.1, fun i v d a b => (h.2 i v d a b).mono e⟩
theorem Reps.nil {G : Hp} : Reps G [] [] := ⟨rfl, fun i v d a => by simp at a⟩
theorem Reps.cons {G : Hp} {v : V} {d : D} {vs : List V} {ds : List D} (h : Rep G v d) (t : Reps G vs ds) : Reps G (v :: vs) (d :: ds) := by
  refine ⟨by rw [List.length_cons, List.length_cons, t.1], fun i x y a b => ?_⟩
  cases i with
  | zero => simp at a b; subst a; subst b; exact h
  | succ i => exact t.2 i x y (by simpa using a) (by simpa using b)
theorem Reps.head {G : Hp} {v : V} {d : D} {vs : List V} {ds : List D} (h : Reps G (v :: vs) (d :: ds)) : Rep G v d := h.2 0 v d rfl rfl
theorem Reps.tail {G : Hp} {v : V} {d : D} {vs : List V} {ds : List D} (h : Reps G (v :: vs) (d :: ds)) : Reps G vs ds := ⟨by have := h.1; simpa using this, fun i x y a b => h.2 (i + 1) x y (by simpa using a) (by simpa using b)⟩
theorem Reps.nil_inv {G : Hp} {vs : List V} (h : Reps G vs []) : vs = [] := List.eq_nil_of_length_eq_zero h.1
theorem Reps.cons_inv {G : Hp} {vs : List V} {d : D} {ds : List D} (h : Reps G vs (d :: ds)) : ∃ v vr, vs = v :: vr ∧ Rep G v d ∧ Reps G vr ds := by
  cases vs with
  | nil => have := h.1; simp at this
  | cons v vr => exact ⟨v, vr, rfl, h.head, h.tail⟩
theorem Reps.one {G : Hp} {vs : List V} {d : D} (h : Reps G vs [d]) : ∃ v, vs = [v] ∧ Rep G v d := by
  obtain ⟨v, vr, rfl, a, b⟩ := h.cons_inv
  rw [b.nil_inv]; exact ⟨v, rfl, a⟩
theorem Reps.two {G : Hp} {vs : List V} {d e : D} (h : Reps G vs [d, e]) : ∃ v u, vs = [v, u] ∧ Rep G v d ∧ Rep G u e := by
  obtain ⟨v, vr, rfl, a, b⟩ := h.cons_inv
  obtain ⟨u, rfl, c⟩ := b.one
  exact ⟨v, u, rfl, a, c⟩
theorem Reps.get {G : Hp} {vs : List V} {ds : List D} (h : Reps G vs ds) {i : Nat} {d : D} (e : ds[i]? = some d) : ∃ v, vs[i]? = some v ∧ Rep G v d := by
  have hi := (List.getElem?_eq_some_iff.mp e).1
  rw [← h.1] at hi
  exact ⟨vs[i], List.getElem?_eq_getElem hi, h.2 i _ d (List.getElem?_eq_getElem hi) e⟩
theorem Reps.getV {G : Hp} {vs : List V} {ds : List D} (h : Reps G vs ds) {i : Nat} {v : V} (e : vs[i]? = some v) : ∃ d, ds[i]? = some d ∧ Rep G v d := by
  have hi := (List.getElem?_eq_some_iff.mp e).1
  rw [h.1] at hi
  exact ⟨ds[i], List.getElem?_eq_getElem hi, h.2 i v _ e (List.getElem?_eq_getElem hi)⟩
theorem Reps.induct {G : Hp} {P : List V → List D → Prop} (h0 : P [] []) (h1 : ∀ v vs d ds, Rep G v d → Reps G vs ds → P vs ds → P (v :: vs) (d :: ds)) : ∀ {vs : List V} {ds : List D}, Reps G vs ds → P vs ds
  | vs, [], h => by rw [h.nil_inv]; exact h0
  | vs, d :: ds, h => by
    obtain ⟨v, vr, rfl, a, b⟩ := h.cons_inv
    exact h1 _ _ _ _ a b (Reps.induct h0 h1 b)
theorem Reps.append {G : Hp} {vs us : List V} {ds es : List D} (h : Reps G vs ds) (t : Reps G us es) : Reps G (vs ++ us) (ds ++ es) :=
  Reps.induct (P := fun vs ds => Reps G (vs ++ us) (ds ++ es)) t (fun _ _ _ _ a _ ih => Reps.cons a ih) h
theorem Reps.set {G : Hp} {vs : List V} {ds : List D} (h : Reps G vs ds) {v : V} {d : D} (r : Rep G v d) (i : Nat) : Reps G (vs.set i v) (ds.set i d) := by
  refine ⟨by rw [List.length_set, List.length_set, h.1], fun j x y a b => ?_⟩
  by_cases e : i = j
  · subst e
    rw [List.getElem?_set] at a b
    simp only [if_pos] at a b
    split at a <;> split at b <;> cases a <;> cases b
    exact r
  · rw [List.getElem?_set_ne e] at a b
    exact h.2 j x y a b
theorem Reps.take {G : Hp} {vs : List V} {ds : List D} (h : Reps G vs ds) (n : Nat) : Reps G (vs.take n) (ds.take n) := by
  refine ⟨by rw [List.length_take, List.length_take, h.1], fun j x y a b => ?_⟩
  rw [List.getElem?_take] at a b
  split at a
  · rename_i hj
    rw [if_pos hj] at b
    exact h.2 j x y a b
  · cases a
theorem Reps.drop {G : Hp} {vs : List V} {ds : List D} (h : Reps G vs ds) (n : Nat) : Reps G (vs.drop n) (ds.drop n) := by
  refine ⟨by rw [List.length_drop, List.length_drop, h.1], fun j x y a b => ?_⟩
  rw [List.getElem?_drop] at a b
  exact h.2 _ x y a b
theorem Reps.reverse {G : Hp} {vs : List V} {ds : List D} (h : Reps G vs ds) : Reps G vs.reverse ds.reverse :=
  Reps.induct (P := fun vs ds => Reps G vs.reverse ds.reverse) Reps.nil (fun _ _ _ _ a _ ih => by
    rw [List.reverse_cons, List.reverse_cons]
    exact ih.append (Reps.cons a Reps.nil)) h
theorem Reps.dropLast {G : Hp} {vs : List V} {ds : List D} (h : Reps G vs ds) : Reps G vs.dropLast ds.dropLast := by
  rw [List.dropLast_eq_take, List.dropLast_eq_take, h.1]
  exact h.take _
theorem Reps.eraseIdx {G : Hp} {vs : List V} {ds : List D} (h : Reps G vs ds) (i : Nat) : Reps G (vs.eraseIdx i) (ds.eraseIdx i) := by
  rw [List.eraseIdx_eq_take_drop_succ, List.eraseIdx_eq_take_drop_succ]
  exact (h.take _).append (h.drop _)
theorem Reps.none_of {G : Hp} {vs : List V} {ds : List D} (h : Reps G vs ds) {i : Nat} (e : ds[i]? = none) : vs[i]? = none := by
  rw [List.getElem?_eq_none_iff] at e ⊢
  rw [h.1]; exact e

/-- an object's shell: its own make now, its items shared -/
inductive Shell (G : Hp) : HO → D → Prop where
  | lst {vs : List V} {ds : List D} : Reps G vs ds → Shell G (.lst vs) (.lst ds)
  | dK {kvs : List (Key × V)} {kds : List (Key × D)} : kvs.map (·.1) = kds.map (·.1) → Reps G (kvs.map (·.2)) (kds.map (·.2)) → Shell G (.dK kvs) (.dK kds)
  | dT {kvs : List (List Key × V)} {kds : List (List Key × D)} : kvs.map (·.1) = kds.map (·.1) → Reps G (kvs.map (·.2)) (kds.map (·.2)) → Shell G (.dT kvs) (.dT kds)
  | ins {C dx : Addr} {fs : List (Str × V)} {fds : List (Str × D)} : fs.map (·.1) = fds.map (·.1) → Reps G (fs.map (·.2)) (fds.map (·.2)) → Shell G (.ins C dx fs) (.ins C fds)
theorem Shell.mono {G G' : Hp} (e : Same G G') {o : HO} {d : D} (h : Shell G o d) : Shell G' o d := by
  cases h with
  | lst h => exact .lst (h.mono e)
  | dK a h => exact .dK a (h.mono e)
  | dT a h => exact .dT a (h.mono e)
  | ins a h => exact .ins a (h.mono e)
theorem Shell.lst_inv {G : Hp} {o : HO} {ds : List D} (h : Shell G o (.lst ds)) : ∃ vs, o = .lst vs ∧ Reps G vs ds := by
  cases h with
  | lst h => exact ⟨_, rfl, h⟩
theorem Shell.tup_inv {G : Hp} {o : HO} {ds : List D} (h : Shell G o (.tup ds)) : ∃ vs, o = .tup vs ∧ Reps G vs ds := by
  cases h
theorem Shell.notT {G : Hp} {vs : List V} {d : D} (h : Shell G (.tup vs) d) : False := by
  cases h
theorem Shell.dK_inv {G : Hp} {o : HO} {kds : List (Key × D)} (h : Shell G o (.dK kds)) : ∃ kvs, o = .dK kvs ∧ kvs.map (·.1) = kds.map (·.1) ∧ Reps G (kvs.map (·.2)) (kds.map (·.2)) := by
  cases h with
  | dK a h => exact ⟨_, rfl, a, h⟩
theorem Shell.dT_inv {G : Hp} {o : HO} {kds : List (List Key × D)} (h : Shell G o (.dT kds)) : ∃ kvs, o = .dT kvs ∧ kvs.map (·.1) = kds.map (·.1) ∧ Reps G (kvs.map (·.2)) (kds.map (·.2)) := by
  cases h with
  | dT a h => exact ⟨_, rfl, a, h⟩
/-- what is shared stands for itself -/
theorem Shell.rep {G : Hp} {p : Addr} {o : HO} {d : D} (e : G p = some o) (h : Shell G o d) (hi : (∃ ds, d = .lst ds) ∨ ∃ ds, d = .tup ds) : Rep G (.ref p) d := by
  cases h with
  | lst h => exact .lst e h.1 h.2
  | dK a h => rcases hi with ⟨_, z⟩ | ⟨_, z⟩ <;> cases z
  | dT a h => rcases hi with ⟨_, z⟩ | ⟨_, z⟩ <;> cases z
  | ins a h => rcases hi with ⟨_, z⟩ | ⟨_, z⟩ <;> cases z

/-! ### environments -/
abbrev Mem := List (Addr × D)
structure Env where
  sl : List (Option D)
  M : Mem
  R : Mem
structure Fr where
  B : Hp
  G0 : Hp

structure MemOk (B G H : Hp) (M : Mem) : Prop where
  nd : (M.map (·.1)).Nodup
  at_ : ∀ q ∈ M, B q.1 = none ∧ G q.1 = none ∧ ∃ o, H q.1 = some o ∧ Shell G o q.2
structure Holds (F : Fr) (G : Hp) (Γ : DL.Env) (σ : L2.St) (H : Hp) : Prop where
  g0 : Same F.G0 G
  gh : Same G H
  bh : Same F.B H
  gb : Same F.G0 F.B
  nw : ∀ p o, G p = some o → F.G0 p = some o ∨ F.B p = none ∨ ∃ vs, o = .tup vs
  len : σ.length = Γ.sl.length
  sl : ∀ (i : Nat) (d : D), Γ.sl[i]? = some (some d) → ∃ v, σ[i]? = some (some v) ∧ Rep G v d
  mem : MemOk F.B G H Γ.M
  rd : ∀ q ∈ Γ.R, ∃ o, Rd F.B q.1 o ∧ Shell G o q.2

/-- what a value shows: itself, or what stands at its place -/
inductive See (M R : Mem) : D → D → Prop where
  | self (c : D) : See M R c c
  | own {p : Addr} {c : D} : (p, c) ∈ M → See M R (.ref p) c
  | rd {p : Addr} {c : D} : (p, c) ∈ R → See M R (.ref p) c
theorem See.any {M R : Mem} {d c : D} (h : See [] R d c) : See M R d c := by
  cases h with
  | self => exact .self _
  | own h => cases h
  | rd h => exact .rd h

section
variable {F : Fr} {G : Hp} {Γ : DL.Env} {σ : L2.St} {H : Hp}
theorem rd_same {B H : Hp} (e : Same B H) {p : Addr} {o : HO} (h : Rd B p o) : Rd H p o := by
  rcases h with h | ⟨q, h⟩
  · exact .inl (e _ _ h)
  · exact .inr ⟨q, e _ _ h⟩
theorem Holds.see (h : Holds F G Γ σ H) {d c : D} {v : V} (r : Rep G v d) (s : See Γ.M Γ.R d c) : (∃ p o, v = .ref p ∧ Rd H p o ∧ Shell G o c) ∨ (d = c ∧ Rep G v c) := by
  cases s with
  | self => exact .inr ⟨rfl, r⟩
  | own m =>
    obtain ⟨_, _, o, ho, hs⟩ := h.mem.at_ _ m
    cases r
    exact .inl ⟨_, o, rfl, .inl ho, hs⟩
  | rd m =>
    obtain ⟨o, ho, hs⟩ := h.rd _ m
    cases r
    exact .inl ⟨_, o, rfl, rd_same h.bh ho, hs⟩
theorem Holds.seeL (h : Holds F G Γ σ H) {K : PySem.W.Frag} {d : D} {ds : List D} {v : V} (r : Rep G v d) (s : See Γ.M Γ.R d (.lst ds)) : ∃ p vs, v = .ref p ∧ SqL K H p vs ∧ Reps G vs ds := by
  rcases h.see r s with ⟨p, o, rfl, ho, hs⟩ | ⟨rfl, r⟩
  · obtain ⟨vs, rfl, hr⟩ := hs.lst_inv
    exact ⟨p, vs, rfl, .inl ho, hr⟩
  · cases r with
    | lst e l a => exact ⟨_, _, rfl, .inl (.inl (h.gh _ _ e)), l, a⟩
theorem Holds.seeT (h : Holds F G Γ σ H) {K : PySem.W.Frag} {d : D} {ds : List D} {v : V} (r : Rep G v d) (s : See Γ.M Γ.R d (.tup ds)) : ∃ p vs, v = .ref p ∧ SqT K H p vs ∧ Reps G vs ds := by
  rcases h.see r s with ⟨p, o, rfl, ho, hs⟩ | ⟨rfl, r⟩
  · obtain ⟨vs, rfl, hr⟩ := hs.tup_inv
    exact ⟨p, vs, rfl, .inl ho, hr⟩
  · cases r with
    | tup e l a => exact ⟨_, _, rfl, .inl (.inl (h.gh _ _ e)), l, a⟩
theorem Rep.tup_inv {v : V} {ds : List D} (r : Rep G v (.tup ds)) : ∃ p vs, v = .ref p ∧ G p = some (.tup vs) ∧ Reps G vs ds := by
  cases r with
  | tup e l a => exact ⟨_, _, rfl, e, l, a⟩
theorem Rep.lst_inv {v : V} {ds : List D} (r : Rep G v (.lst ds)) : ∃ p vs, v = .ref p ∧ G p = some (.lst vs) ∧ Reps G vs ds := by
  cases r with
  | lst e l a => exact ⟨_, _, rfl, e, l, a⟩
theorem Rep.int_inv {v : V} {i : Int} (r : Rep G v (.int i)) : v = .int i := by cases r; rfl
theorem Rep.bl_inv {v : V} {i : Bool} (r : Rep G v (.bl i)) : v = .bl i := by cases r; rfl
theorem Rep.str_inv {v : V} {i : Str} (r : Rep G v (.str i)) : v = .str i := by cases r; rfl
theorem Rep.non_inv {v : V} (r : Rep G v .non) : v = .non := by cases r; rfl
theorem Rep.ref_inv {v : V} {p : Addr} (r : Rep G v (.ref p)) : v = .ref p := by cases r; rfl

/-- a new object, owned -/
theorem Holds.newOwn (h : Holds F G Γ σ H) {p : Addr} {o : HO} {c : D} (hp : H p = none) (hs : Shell G o c) : Holds F G ⟨Γ.sl, (p, c) :: Γ.M, Γ.R⟩ σ (upd H p o) where
  g0 := h.g0
  gh := h.gh.trans (fun b u e => by rw [upd_ne (ne_of_none e hp)]; exact e)
  bh := h.bh.trans (fun b u e => by rw [upd_ne (ne_of_none e hp)]; exact e)
  gb := h.gb
  nw := h.nw
  len := h.len
  sl := h.sl
  mem := by
    have hB : F.B p = none := h.bh.free hp
    have hG : G p = none := h.gh.free hp
    refine ⟨?_, fun q m => ?_⟩
    · rw [List.map_cons, List.nodup_cons]
      refine ⟨fun ha => ?_, h.mem.nd⟩
      obtain ⟨q, hq, e⟩ := List.mem_map.mp ha
      obtain ⟨_, _, o', e', _⟩ := h.mem.at_ q hq
      have e2 : q.1 = p := e
      rw [e2, hp] at e'; cases e'
    · rcases List.mem_cons.mp m with rfl | m
      · exact ⟨hB, hG, o, upd_same, hs⟩
      · obtain ⟨a, b, o', e', s'⟩ := h.mem.at_ q m
        refine ⟨a, b, o', ?_, s'⟩
        rw [upd_ne (ne_of_none e' hp)]; exact e'
  rd := h.rd
/-- a new object, shared -/
theorem Holds.newSh (h : Holds F G Γ σ H) {p : Addr} {o : HO} (hp : H p = none) : Same G (upd G p o) ∧ Holds F (upd G p o) Γ σ (upd H p o) := by
  have hB : F.B p = none := h.bh.free hp
  have hG : G p = none := h.gh.free hp
  have sg : Same G (upd G p o) := fun b u e => by rw [upd_ne (ne_of_none e hG)]; exact e
  have sh : Same H (upd H p o) := fun b u e => by rw [upd_ne (ne_of_none e hp)]; exact e
  refine ⟨sg, h.g0.trans sg, fun b u e => ?_, h.bh.trans sh, h.gb, fun b u e => ?_, h.len, fun i d e => ?_, ⟨h.mem.nd, fun q m => ?_⟩, fun q m => ?_⟩
  · by_cases hb : b = p
    · subst hb; rw [upd_same] at e ⊢; exact e
    · rw [upd_ne hb] at e ⊢; exact h.gh _ _ e
  · by_cases hb : b = p
    · subst hb; exact .inr (.inl hB)
    · rw [upd_ne hb] at e; exact h.nw _ _ e
  · obtain ⟨v, a, b⟩ := h.sl i d e
    exact ⟨v, a, b.mono sg⟩
  · obtain ⟨a, b, o', e', s'⟩ := h.mem.at_ q m
    have ne : q.1 ≠ p := ne_of_none e' hp
    exact ⟨a, by rw [upd_ne ne]; exact b, o', by rw [upd_ne ne]; exact e', s'.mono sg⟩
  · obtain ⟨o', e', s'⟩ := h.rd q m
    exact ⟨o', e', s'.mono sg⟩
theorem nodup_ix' {l : List Addr} (hN : l.Nodup) {i j : Nat} {x : Addr} (a : l[i]? = some x) (b : l[j]? = some x) : i = j := by
  obtain ⟨h1, e1⟩ := List.getElem?_eq_some_iff.mp a
  obtain ⟨h2, e2⟩ := List.getElem?_eq_some_iff.mp b
  exact (List.getElem_inj hN).mp (e1.trans e2.symm)
/-- an owned object is written -/
theorem Holds.write (h : Holds F G Γ σ H) {k : Nat} {p : Addr} {c c' : D} {o' : HO} (m : Γ.M[k]? = some (p, c)) (hs : Shell G o' c') : Holds F G ⟨Γ.sl, Γ.M.set k (p, c'), Γ.R⟩ σ (upd H p o') := by
  have hm := List.mem_of_getElem? m
  obtain ⟨hB, hG, o, ho, _⟩ := h.mem.at_ _ hm
  refine ⟨h.g0, fun b u e => ?_, fun b u e => ?_, h.gb, h.nw, h.len, h.sl, ⟨?_, fun q mq => ?_⟩, h.rd⟩
  · rw [upd_ne (ne_of_none e hG)]; exact h.gh _ _ e
  · rw [upd_ne (ne_of_none e hB)]; exact h.bh _ _ e
  · have : (Γ.M.set k (p, c')).map (·.1) = Γ.M.map (·.1) := by
      rw [List.map_set]
      apply List.ext_getElem?
      intro j
      by_cases hj : k = j
      · subst hj
        rw [List.getElem?_set]
        simp only [if_pos]
        rw [List.getElem?_map, m]
        split
        · rfl
        · rename_i hl
          have := (List.getElem?_eq_some_iff.mp m).1
          simp at hl; omega
      · rw [List.getElem?_set_ne hj]
    show ((Γ.M.set k (p, c')).map (·.1)).Nodup
    rw [this]; exact h.mem.nd
  · obtain ⟨j, hj, ej⟩ := List.getElem_of_mem mq
    by_cases hk : k = j
    · subst hk
      have eq : q = (p, c') := by
        have := ej; simp at this; exact this.symm
      subst eq
      exact ⟨hB, hG, o', upd_same, hs⟩
    · have e0 : Γ.M[j]? = some q := by
        have h1 : (Γ.M.set k (p, c'))[j]? = some q := by
          rw [← ej]; exact List.getElem?_eq_getElem hj
        rw [List.getElem?_set_ne hk] at h1; exact h1
      obtain ⟨a, b, oq, e', s'⟩ := h.mem.at_ q (List.mem_of_getElem? e0)
      refine ⟨a, b, oq, ?_, s'⟩
      have ne : q.1 ≠ p := by
        intro e
        have h1 : (Γ.M.map (·.1))[j]? = some p := by rw [List.getElem?_map, e0, ← e]; rfl
        have h2 : (Γ.M.map (·.1))[k]? = some p := by rw [List.getElem?_map, m]; rfl
        exact hk (nodup_ix' h.mem.nd h2 h1)
      rw [upd_ne ne]; exact e'
/-- an owned object becomes a shared one; the slots say so -/
theorem Holds.freeze (h : Holds F G Γ σ H) {k : Nat} {p : Addr} {c : D} (m : Γ.M[k]? = some (p, c)) (hc : (∃ ds, c = .lst ds) ∨ ∃ ds, c = .tup ds) (fz : List (Option D))
    (hl : fz.length = Γ.sl.length) (hf : ∀ (i : Nat) d, fz[i]? = some (some d) → Γ.sl[i]? = some (some d) ∨ (Γ.sl[i]? = some (some (.ref p)) ∧ d = c)) :
    ∃ G', Same G G' ∧ Rep G' (.ref p) c ∧ Holds F G' ⟨fz, Γ.M.eraseIdx k, Γ.R⟩ σ H := by
  have hm := List.mem_of_getElem? m
  obtain ⟨hB, hG, o, ho, hs⟩ := h.mem.at_ _ hm
  have sg : Same G (upd G p o) := fun b u e => by rw [upd_ne (ne_of_none e hG)]; exact e
  have rp : Rep (upd G p o) (.ref p) c := Shell.rep upd_same (hs.mono sg) hc
  have sub : (Γ.M.eraseIdx k).Sublist Γ.M := List.eraseIdx_sublist _ _
  refine ⟨upd G p o, sg, rp, h.g0.trans sg, fun b u e => ?_, h.bh, h.gb, fun b u e => ?_, by rw [h.len, hl], fun i d e => ?_, ⟨?_, fun q mq => ?_⟩, fun q mq => ?_⟩
  · by_cases hb : b = p
    · subst hb; rw [upd_same] at e; cases e; exact ho
    · rw [upd_ne hb] at e; exact h.gh _ _ e
  · by_cases hb : b = p
    · subst hb; exact .inr (.inl hB)
    · rw [upd_ne hb] at e; exact h.nw _ _ e
  · rcases hf i d e with e1 | ⟨e1, rfl⟩
    · obtain ⟨v, a, b⟩ := h.sl i d e1
      exact ⟨v, a, b.mono sg⟩
    · obtain ⟨v, a, b⟩ := h.sl i _ e1
      cases b
      exact ⟨_, a, rp⟩
  · exact List.Nodup.sublist (sub.map _) h.mem.nd
  · obtain ⟨a, b, oq, e', s'⟩ := h.mem.at_ q (sub.subset mq)
    have ne : q.1 ≠ p := by
      intro e
      obtain ⟨j, hj, ej⟩ := List.getElem_of_mem mq
      have ej' : (Γ.M.eraseIdx k)[j]? = some q := by rw [← ej]; exact List.getElem?_eq_getElem hj
      rw [List.getElem?_eraseIdx] at ej'
      split at ej'
      · rename_i hlt
        have h1 : (Γ.M.map (·.1))[j]? = some p := by rw [List.getElem?_map, ej', ← e]; rfl
        have h2 : (Γ.M.map (·.1))[k]? = some p := by rw [List.getElem?_map, m]; rfl
        have := nodup_ix' h.mem.nd h2 h1
        omega
      · rename_i hlt
        have h1 : (Γ.M.map (·.1))[j + 1]? = some p := by rw [List.getElem?_map, ej', ← e]; rfl
        have h2 : (Γ.M.map (·.1))[k]? = some p := by rw [List.getElem?_map, m]; rfl
        have := nodup_ix' h.mem.nd h2 h1
        omega
    exact ⟨a, by rw [upd_ne ne]; exact b, oq, e', s'.mono sg⟩
  · obtain ⟨o', e', s'⟩ := h.rd q mq
    exact ⟨o', e', s'.mono sg⟩
theorem Holds.setSl (h : Holds F G Γ σ H) {v : V} {d : D} (r : Rep G v d) (i : Nat) : Holds F G ⟨Γ.sl.set i (some d), Γ.M, Γ.R⟩ (σ.set i (some v)) H := by
  refine ⟨h.g0, h.gh, h.bh, h.gb, h.nw, by rw [List.length_set, List.length_set, h.len], fun j e he => ?_, h.mem, h.rd⟩
  by_cases hj : i = j
  · subst hj
    have he' : (Γ.sl.set i (some d))[i]? = some (some e) := he
    rw [List.getElem?_set] at he'
    simp only [if_pos] at he'
    split at he'
    · rename_i hl
      cases he'
      refine ⟨v, ?_, r⟩
      rw [List.getElem?_set]
      simp only [if_pos]
      rw [if_pos (by rw [h.len]; exact hl)]
    · cases he'
  · have he' : (Γ.sl.set i (some d))[j]? = some (some e) := he
    rw [List.getElem?_set_ne hj] at he'
    obtain ⟨w, a, b⟩ := h.sl j e he'
    exact ⟨w, by rw [List.getElem?_set_ne hj]; exact a, b⟩
end
end DL

/-! The D layer, part 2: the judgements. -/
namespace DL
open PySem PySem.Spec PyProof.Rows L2

/-! ### the widest readings -/
def tU (X : Cx) (e : Expr) : TE := fun σ H Q => ∀ (pins : List (Addr × Obj)) (s : Shared), Inv X pins σ H s → wpAny (model X.prog X.w) X.A (eval e X.env) (EP X pins σ Q) X.xe s
def tUT (X : Cx) (e : Expr) : TT := fun σ H Q => ∀ (pins : List (Addr × Obj)) (s : Shared), Inv X pins σ H s → wpAny (model X.prog X.w) X.A (isTrue e X.env (eval e X.env)) (TP X pins σ Q) X.xe s
def tUW (X : Cx) (e : Expr) : TT := fun σ H Q => ∀ (whole : Sem Value) (pins : List (Addr × Obj)) (s : Shared), Inv X pins σ H s → wpAny (model X.prog X.w) X.A (isTrue e X.env whole) (TP X pins σ Q) X.xe s
def tUA (X : Cx) (es : List Expr) : TA := fun σ H Q => ∀ (pos : Pos) (pins : List (Addr × Obj)) (s : Shared), Inv X pins σ H s → wpAny (model X.prog X.w) X.A (spliced (backTo pos (starEach es X.env))) (AP X pins σ Q) X.xe s
def tUS (X : Cx) (st : Stmt) : TS := fun D σ H => ∀ (pins : List (Addr × Obj)) (s : Shared), Inv X pins σ H s → wpAny (model X.prog X.w) X.A (exec st X.env) (SP X pins D) X.xe s
def tUSs (X : Cx) (st : List Stmt) : TS := fun D σ H => ∀ (pins : List (Addr × Obj)) (s : Shared), Inv X pins σ H s → wpAny (model X.prog X.w) X.A (execs st X.env) (SP X pins D) X.xe s
def tUG (X : Cx) (tg : Expr) : TG := fun v σ H Q => ∀ (pins : List (Addr × Obj)) (s : Shared) (u : Value), Inv X pins σ H s → RelV v u → wpAny (model X.prog X.w) X.A (assign tg X.env u) (fun _ s' => ∃ σ' H', Inv X pins σ' H' s' ∧ Q σ' H') X.xe s
def tUGs (X : Cx) (ts : List Expr) : TGs := fun vs σ H Q => ∀ (pins : List (Addr × Obj)) (s : Shared) (us : List Value), Inv X pins σ H s → Vals vs us → wpAny (model X.prog X.w) X.A (assignInOrder ((assignEach ts X.env).map (·.2)) us) (fun _ s' => ∃ σ' H', Inv X pins σ' H' s' ∧ Q σ' H') X.xe s
section
variable {X : Cx}
theorem pe_U {e : Expr} : PE X e (tU X e) := ⟨fun pins s _ _ _ I h => h pins s I⟩
theorem pt_U {e : Expr} : PT X e (tUT X e) := ⟨fun pins s _ _ _ I h => h pins s I⟩
theorem pw_U {e : Expr} : PW X e (tUW X e) := ⟨fun wh pins s _ _ _ I h => h wh pins s I⟩
theorem pa_U {es : List Expr} : PA X es (tUA X es) := ⟨fun pos pins s _ _ _ I h => h pos pins s I⟩
theorem ps_U {st : Stmt} : PS X st (tUS X st) := ⟨fun pins s _ _ _ I h => h pins s I⟩
theorem pss_U {st : List Stmt} : PSs X st (tUSs X st) := ⟨fun pins s _ _ _ I h => h pins s I⟩
theorem pg_U {tg : Expr} : PG X tg (tUG X tg) := ⟨fun pins s _ _ _ u _ I r h => h pins s u I r⟩
theorem pgs_U {tg : List Expr} : PGs X tg (tUGs X tg) := ⟨fun pins s _ _ _ u _ I r h => h pins s u I r⟩
theorem tU_of {e : Expr} {t : TE} (h : PE X e t) {σ : L2.St} {H : Hp} {Q : VK} (q : t σ H Q) : tU X e σ H Q := fun pins s I => h.run pins s σ H Q I q
theorem tUT_of {e : Expr} {t : TT} (h : PT X e t) {σ : L2.St} {H : Hp} {Q : Bool → Hp → Prop} (q : t σ H Q) : tUT X e σ H Q := fun pins s I => h.run pins s σ H Q I q
theorem tUW_of {e : Expr} {t : TT} (h : PW X e t) {σ : L2.St} {H : Hp} {Q : Bool → Hp → Prop} (q : t σ H Q) : tUW X e σ H Q := fun wh pins s I => h.run wh pins s σ H Q I q
theorem tUA_of {es : List Expr} {t : TA} (h : PA X es t) {σ : L2.St} {H : Hp} {Q : List V → Hp → Prop} (q : t σ H Q) : tUA X es σ H Q := fun pos pins s I => h.run pos pins s σ H Q I q
theorem tUS_of {st : Stmt} {t : TS} (h : PS X st t) {D : Ends} {σ : L2.St} {H : Hp} (q : t D σ H) : tUS X st D σ H := fun pins s I => h.run pins s σ H D I q
theorem tUSs_of {st : List Stmt} {t : TS} (h : PSs X st t) {D : Ends} {σ : L2.St} {H : Hp} (q : t D σ H) : tUSs X st D σ H := fun pins s I => h.run pins s σ H D I q
theorem tUG_of {tg : Expr} {t : TG} (h : PG X tg t) {v : V} {σ : L2.St} {H : Hp} {Q : L2.St → Hp → Prop} (q : t v σ H Q) : tUG X tg v σ H Q := fun pins s u I r => h.run pins s σ H v u Q I r q
theorem tUGs_of {tg : List Expr} {t : TGs} (h : PGs X tg t) {v : List V} {σ : L2.St} {H : Hp} {Q : L2.St → Hp → Prop} (q : t v σ H Q) : tUGs X tg v σ H Q := fun pins s u I r => h.run pins s σ H v u Q I r q
end

/-! ### what is asked of a context -/
structure Std (X : Cx) : Prop where
  calm : X.calm = true
  nd : X.N.Nodup
  own : PassesOwn (model X.prog X.w) X.A X.env X.xe
  hu : X.A.units + 64 < cLine
theorem Std.hu1 {X : Cx} (h : Std X) : X.A.units + 1 < cLine := Nat.lt_of_le_of_lt (Nat.add_le_add_left (by decide : 1 ≤ 64) _) h.hu
structure NameAt (X : Cx) (i : Nat) (x : Str) : Prop where
  hN : X.N[i]? = some x
  vis : Vis X.env.scope x
  d1 : (x == ("__debug__" : Str)) = false
  d2 : (x == ("__classdict__" : Str)) = false
structure StoreAt (X : Cx) (i : Nat) (x : Str) : Prop where
  hN : X.N[i]? = some x
  loc : Loc X.env.scope x
  fn : X.fn x = true ∨ X.env.scope.names.lookup x = some .local

/-! ### the judgements -/
def Good (F : Fr) (Q : D → DL.Env → Prop) (G : Hp) (σ : L2.St) (R : VK) : Prop :=
  ∀ d Γ' G' v H', Q d Γ' → Same G G' → Holds F G' Γ' σ H' → Rep G' v d → R v H'
def GoodB (F : Fr) (Q : Bool → DL.Env → Prop) (G : Hp) (σ : L2.St) (R : Bool → Hp → Prop) : Prop :=
  ∀ d Γ' G' H', Q d Γ' → Same G G' → Holds F G' Γ' σ H' → R d H'
def GoodA (F : Fr) (Q : List D → DL.Env → Prop) (G : Hp) (σ : L2.St) (R : List V → Hp → Prop) : Prop :=
  ∀ d Γ' G' v H', Q d Γ' → Same G G' → Holds F G' Γ' σ H' → Reps G' v d → R v H'
def GoodG (F : Fr) (Q : DL.Env → Prop) (G : Hp) (R : L2.St → Hp → Prop) : Prop :=
  ∀ Γ' G' σ' H', Q Γ' → Same G G' → Holds F G' Γ' σ' H' → R σ' H'
structure Out where
  nx : DL.Env → Prop
  rt : D → DL.Env → Prop
  bk : DL.Env → Prop := fun _ => False
  ct : DL.Env → Prop := fun _ => False
structure GoodS (F : Fr) (O : Out) (G : Hp) (E : Ends) : Prop where
  nx : GoodG F O.nx G E.nx
  rt : ∀ d Γ' G' σ' v H', O.rt d Γ' → Same G G' → Holds F G' Γ' σ' H' → Rep G' v d → E.rt v H'
  bk : GoodG F O.bk G E.bk
  ct : GoodG F O.ct G E.ct
section
variable (X : Cx) (F : Fr)
/-- an expression -/
def WE (e : Expr) (Γ : DL.Env) (Q : D → DL.Env → Prop) : Prop := ∀ G σ H, Holds F G Γ σ H → ∀ R, Good F Q G σ R → tU X e σ H R
/-- a test -/
def WT (e : Expr) (Γ : DL.Env) (Q : Bool → DL.Env → Prop) : Prop := ∀ G σ H, Holds F G Γ σ H → ∀ R, GoodB F Q G σ R → tUT X e σ H R
def WW (e : Expr) (Γ : DL.Env) (Q : Bool → DL.Env → Prop) : Prop := ∀ G σ H, Holds F G Γ σ H → ∀ R, GoodB F Q G σ R → tUW X e σ H R
/-- arguments -/
def WA (es : List Expr) (Γ : DL.Env) (Q : List D → DL.Env → Prop) : Prop := ∀ G σ H, Holds F G Γ σ H → ∀ R, GoodA F Q G σ R → tUA X es σ H R
/-- a target -/
def WG (tg : Expr) (d : D) (Γ : DL.Env) (Q : DL.Env → Prop) : Prop := ∀ G σ H v, Holds F G Γ σ H → Rep G v d → ∀ R, GoodG F Q G R → tUG X tg v σ H R
def WGs (tg : List Expr) (ds : List D) (Γ : DL.Env) (Q : DL.Env → Prop) : Prop := ∀ G σ H vs, Holds F G Γ σ H → Reps G vs ds → ∀ R, GoodG F Q G R → tUGs X tg vs σ H R
/-- a statement, a block -/
def WS (st : Stmt) (Γ : DL.Env) (O : Out) : Prop := ∀ G σ H, Holds F G Γ σ H → ∀ E, GoodS F O G E → tUS X st E σ H
def WSs (st : List Stmt) (Γ : DL.Env) (O : Out) : Prop := ∀ G σ H, Holds F G Γ σ H → ∀ E, GoodS F O G E → tUSs X st E σ H
/-- an operation on two values -/
def WO (f : Value → Value → Sem Value) (d1 d2 : D) (Γ : DL.Env) (Q : D → DL.Env → Prop) : Prop :=
  ∀ G σ H x y, Holds F G Γ σ H → Rep G x d1 → Rep G y d2 → ∀ R, Good F Q G σ R → ∀ (pins : List (Addr × Obj)) (s : Shared) (v u : Value), Inv X pins σ H s → RelV x v → RelV y u →
    wpAny (model X.prog X.w) X.A (f v u) (EP X pins σ R) X.xe s
/-- .. on one -/
def WU (f : Value → Sem Value) (d1 : D) (Γ : DL.Env) (Q : D → DL.Env → Prop) : Prop :=
  ∀ G σ H x, Holds F G Γ σ H → Rep G x d1 → ∀ R, Good F Q G σ R → ∀ (pins : List (Addr × Obj)) (s : Shared) (v : Value), Inv X pins σ H s → RelV x v →
    wpAny (model X.prog X.w) X.A (f v) (EP X pins σ R) X.xe s
/-- .. on many: a call of a known value -/
def WC (f : Value) (ds : List D) (Γ : DL.Env) (Q : D → DL.Env → Prop) : Prop :=
  ∀ G σ H xs, Holds F G Γ σ H → Reps G xs ds → ∀ R, Good F Q G σ R → ∀ (pins : List (Addr × Obj)) (s : Shared) (us : List Value), Inv X pins σ H s → Vals xs us →
    wpAny (model X.prog X.w) X.A (call f us) (EP X pins σ R) X.xe s
end

section
variable {X : Cx} {F : Fr} {Γ : DL.Env} {Q Q' : D → DL.Env → Prop}
theorem we_mono {e : Expr} (h : WE X F e Γ Q) (q : ∀ d Γ', Q d Γ' → Q' d Γ') : WE X F e Γ Q' := fun G σ H hh R hR => h G σ H hh R fun d Γ' G' v H' a => hR d Γ' G' v H' (q _ _ a)
theorem wo_mono {f : Value → Value → Sem Value} {d1 d2 : D} (h : WO X F f d1 d2 Γ Q) (q : ∀ d Γ', Q d Γ' → Q' d Γ') : WO X F f d1 d2 Γ Q' :=
  fun G σ H x y hh r1 r2 R hR => h G σ H x y hh r1 r2 R fun d Γ' G' v H' a => hR d Γ' G' v H' (q _ _ a)
theorem Good.here {G : Hp} {σ : L2.St} {H : Hp} {R : VK} {d : D} {v : V} (hR : Good F Q G σ R) (h : Holds F G Γ σ H) (q : Q d Γ) (r : Rep G v d) : R v H := hR d Γ G v H q (Same.refl G) h r
theorem Good.later {G G' : Hp} {σ : L2.St} {R : VK} (hR : Good F Q G σ R) (e : Same G G') : Good F Q G' σ R := fun d Γ' G2 v H' q s => hR d Γ' G2 v H' q (e.trans s)
theorem GoodB.later {Q : Bool → DL.Env → Prop} {G G' : Hp} {σ : L2.St} {R : Bool → Hp → Prop} (hR : GoodB F Q G σ R) (e : Same G G') : GoodB F Q G' σ R := fun d Γ' G2 H' q s => hR d Γ' G2 H' q (e.trans s)
theorem GoodG.later {Q : DL.Env → Prop} {G G' : Hp} {R : L2.St → Hp → Prop} (hR : GoodG F Q G R) (e : Same G G') : GoodG F Q G' R := fun Γ' G2 σ' H' q s => hR Γ' G2 σ' H' q (e.trans s)
theorem GoodS.later {O : Out} {G G' : Hp} {E : Ends} (h : GoodS F O G E) (e : Same G G') : GoodS F O G' E :=
  ⟨h.nx.later e, fun d Γ' G2 σ' v H' q s => h.rt d Γ' G2 σ' v H' q (e.trans s), h.bk.later e, h.ct.later e⟩

/-! ### constants and names -/
theorem we_int {i : Int} {j : Nat} {pos : Pos} (q : Q (.int i) Γ) : WE X F (.Constant (.int i) j pos) Γ Q := fun G σ H hh R hR => tU_of pe_int (hR.here hh q (.int i))
theorem we_bl {i : Bool} {j : Nat} {pos : Pos} (q : Q (.bl i) Γ) : WE X F (.Constant (.bool i) j pos) Γ Q := fun G σ H hh R hR => tU_of pe_bl (hR.here hh q (.bl i))
theorem we_str {i : Str} {j : Nat} {pos : Pos} (q : Q (.str i) Γ) : WE X F (.Constant (.str i) j pos) Γ Q := fun G σ H hh R hR => tU_of pe_str (hR.here hh q (.str i))
theorem we_non {j : Nat} {pos : Pos} (q : Q .non Γ) : WE X F (.Constant .none j pos) Γ Q := fun G σ H hh R hR => tU_of pe_non (hR.here hh q .non)
theorem we_name {i : Nat} {x : Str} {pos : Pos} {d : D} (n : NameAt X i x) (e : Γ.sl[i]? = some (some d)) (q : Q d Γ) : WE X F (.Name x pos) Γ Q := fun G σ H hh R hR => by
  obtain ⟨v, a, b⟩ := hh.sl i d e
  exact tU_of (pe_var n.hN n.vis n.d1 n.d2) ⟨v, a, hR.here hh q b⟩
/-- a global that holds a plain constant -/
theorem we_glob {x : Str} {pos : Pos} {v : V} {u : Value} {d : D} (hg : Gl X x) (hm : X.mg x = some u) (r : RelV v u) (hd : (x == ("__debug__" : Str)) = false) (rd : ∀ G, Rep G v d) (q : Q d Γ) : WE X F (.Name x pos) Γ Q :=
  fun G σ H hh R hR => tU_of (pe_glob hg hm r hd) (hR.here hh q (rd G))

/-! ### operators -/
theorem we_bin {a b : Expr} {op : Operator} {pos : Pos} (h : WE X F a Γ fun d1 Γ1 => WE X F b Γ1 fun d2 Γ2 => WO X F (binaryOp op) d1 d2 Γ2 Q) : WE X F (.BinOp a op b pos) Γ Q := by
  intro G σ H hh R hR pins s I
  refine wpAny_BinOp (binT (R := fun x y H2 => ∀ (pins : List (Addr × Obj)) (s : Shared) (v u : Value), Inv X pins σ H2 s → RelV x v → RelV y u → wpAny (model X.prog X.w) X.A (binaryOp op v u) (EP X pins σ R) X.xe s)
    pe_U pe_U I ?_ fun v u s2 x y H2 I2 rx ry q => q _ _ _ _ I2 rx ry)
  refine h G σ H hh _ fun d1 Γ1 G1 v1 H1 q1 s1 h1 r1 => ?_
  refine q1 G1 σ H1 h1 _ fun d2 Γ2 G2 v2 H2 q2 s2 h2 r2 => ?_
  exact q2 G2 σ H2 v1 v2 h2 (r1.mono s2) r2 R (hR.later (s1.trans s2))
theorem we_un {a : Expr} {op : UnaryOp} {pos : Pos} (hne : op ≠ .Not) (h : WE X F a Γ fun d1 Γ1 => WU X F (unaryOp op) d1 Γ1 Q) : WE X F (.UnaryOp op a pos) Γ Q := by
  intro G σ H hh R hR
  intro pins s I
  refine UnaryOp_ (thn (pe_U.run pins s σ H (fun x H1 => ∀ (pins : List (Addr × Obj)) (s : Shared) (v : Value), Inv X pins σ H1 s → RelV x v → wpAny (model X.prog X.w) X.A (unaryOp op v) (EP X pins σ R) X.xe s) I ?_) fun v s1 ⟨x, H1, I1, r1, q1⟩ => q1 _ _ _ I1 r1)
  refine h G σ H hh _ fun d1 Γ1 G1 v1 H1 q1 s1 h1 r1 => ?_
  exact q1 G1 σ H1 v1 h1 r1 R (hR.later s1)
theorem we_cmp {a b : Expr} {op : CmpOp} {pos : Pos} (hm : behindInMarks op b = false) (h : WE X F a Γ fun d1 Γ1 => WE X F b Γ1 fun d2 Γ2 => WO X F (compareOp op) d1 d2 Γ2 Q) : WE X F (.Compare a [op] [b] pos) Γ Q := by
  intro G σ H hh R hR pins s I
  refine wpAny_Compare1 (binT (R := fun x y H2 => ∀ (pins : List (Addr × Obj)) (s : Shared) (v u : Value), Inv X pins σ H2 s → RelV x v → RelV y u → wpAny (model X.prog X.w) X.A (compareOp op v u) (EP X pins σ R) X.xe s)
    pe_U pe_U I ?_ fun v u s2 x y H2 I2 rx ry q => q _ _ _ _ I2 rx ry) hm
  refine h G σ H hh _ fun d1 Γ1 G1 v1 H1 q1 s1 h1 r1 => ?_
  refine q1 G1 σ H1 h1 _ fun d2 Γ2 G2 v2 H2 q2 s2 h2 r2 => ?_
  exact q2 G2 σ H2 v1 v2 h2 (r1.mono s2) r2 R (hR.later (s1.trans s2))
theorem wt_cmp {a b : Expr} {op : CmpOp} {pos : Pos} {Q : Bool → DL.Env → Prop} (hm : behindInMarks op b = false)
    (h : WE X F a Γ fun d1 Γ1 => WE X F b Γ1 fun d2 Γ2 => WO X F (compareOp op) d1 d2 Γ2 fun d Γ3 => ∃ c, d = .bl c ∧ Q c Γ3) : WT X F (.Compare a [op] [b] pos) Γ Q := by
  intro G σ H hh R hR pins s I
  refine wpAny_isTrue_Compare1 (thn (binT (R := fun x y H2 => ∀ (pins : List (Addr × Obj)) (s : Shared) (v u : Value), Inv X pins σ H2 s → RelV x v → RelV y u → wpAny (model X.prog X.w) X.A (compareOp op v u) (EP X pins σ fun v H => ∃ c, v = .bl c ∧ R c H) X.xe s)
    pe_U pe_U I ?_ fun v u s2 x y H2 I2 rx ry q => q _ _ _ _ I2 rx ry) fun v s1 h1 => thn h1 fun u s2 h2 => thn h2 fun c s3 ⟨x, H1, I1, r1, q1⟩ => ?_) hm
  · refine h G σ H hh _ fun d1 Γ1 G1 v1 H1 q1 s1 h1 r1 => ?_
    refine q1 G1 σ H1 h1 _ fun d2 Γ2 G2 v2 H2 q2 s2 h2 r2 => ?_
    refine q2 G2 σ H2 v1 v2 h2 (r1.mono s2) r2 _ fun d Γ' G' v H' q e hh r => ?_
    obtain ⟨c, rfl, q⟩ := q
    exact ⟨c, r.bl_inv, hR c Γ' G' H' q ((s1.trans s2).trans e) hh⟩
  · obtain ⟨d, rfl, q⟩ := q1
    cases r1
    exact wpAny_truthy_bool ⟨H1, I1, q⟩
/-- a test by a value that is a bool -/
theorem wt_val {e : Expr} {Q : Bool → DL.Env → Prop} (he : ∀ whole, isTrue e X.env whole = (do let v ← whole; standAt e.pos; holding [v] (truthy v))) (h : WE X F e Γ fun d Γ1 => ∃ c, d = .bl c ∧ Q c Γ1) : WT X F e Γ Q := by
  intro G σ H hh R hR
  refine tUT_of (pt_val pe_U he) (h G σ H hh _ fun d Γ' G' v H' q e hh r => ?_)
  obtain ⟨c, rfl, q⟩ := q
  exact ⟨c, r.bl_inv, hR c Γ' G' H' q e hh⟩
theorem wt_not {a : Expr} {pos : Pos} {Q : Bool → DL.Env → Prop} (h : WT X F a Γ fun c Γ1 => Q (!c) Γ1) : WT X F (.UnaryOp .Not a pos) Γ Q := by
  intro G σ H hh R hR
  exact tUT_of (pt_not pt_U) (h G σ H hh _ fun c Γ' G' H' q e hh => hR (!c) Γ' G' H' q e hh)
theorem wt_bool {op : BoolOp} {es : List Expr} {pos : Pos} {Q : Bool → DL.Env → Prop} (h : WW X F (.BoolOp op es pos) Γ Q) : WT X F (.BoolOp op es pos) Γ Q := fun G σ H hh R hR => tUT_of pw_U.pt (h G σ H hh R hR)
section
variable {a b : Expr} {rest : List Expr} {pos : Pos} {QB : Bool → DL.Env → Prop}
theorem ww_and1 (h : WT X F a Γ QB) : WW X F (.BoolOp .And [a] pos) Γ QB := fun G σ H hh R hR => tUW_of (pw_and1 pt_U) (h G σ H hh R hR)
theorem ww_or1 (h : WT X F a Γ QB) : WW X F (.BoolOp .Or [a] pos) Γ QB := fun G σ H hh R hR => tUW_of (pw_or1 pt_U) (h G σ H hh R hR)
theorem ww_and (h : WT X F a Γ fun c Γ1 => (c = true → WW X F (.BoolOp .And (b :: rest) pos) Γ1 QB) ∧ (c = false → QB false Γ1)) : WW X F (.BoolOp .And (a :: b :: rest) pos) Γ QB := fun G σ H hh R hR =>
  tUW_of (pw_and pt_U pw_U) (h G σ H hh _ fun c Γ' G' H' q e hh => by
    cases c with
    | true => exact q.1 rfl G' σ H' hh R (hR.later e)
    | false => exact hR false Γ' G' H' (q.2 rfl) e hh)
theorem ww_or (h : WT X F a Γ fun c Γ1 => (c = false → WW X F (.BoolOp .Or (b :: rest) pos) Γ1 QB) ∧ (c = true → QB true Γ1)) : WW X F (.BoolOp .Or (a :: b :: rest) pos) Γ QB := fun G σ H hh R hR =>
  tUW_of (pw_or pt_U pw_U) (h G σ H hh _ fun c Γ' G' H' q e hh => by
    cases c with
    | false => exact q.1 rfl G' σ H' hh R (hR.later e)
    | true => exact hR true Γ' G' H' (q.2 rfl) e hh)
theorem we_one {op : BoolOp} (h : WE X F a Γ Q) : WE X F (.BoolOp op [a] pos) Γ Q := fun G σ H hh R hR => tU_of (pe_one pe_U) (h G σ H hh R hR)
theorem we_and (h : WE X F a Γ fun d Γ1 => ∃ c, d = .bl c ∧ (c = true → WE X F (.BoolOp .And (b :: rest) pos) Γ1 Q) ∧ (c = false → Q (.bl false) Γ1)) : WE X F (.BoolOp .And (a :: b :: rest) pos) Γ Q := fun G σ H hh R hR =>
  tU_of (pe_and pe_U pe_U) (h G σ H hh _ fun d Γ' G' v H' q e hh r => by
    obtain ⟨c, rfl, q⟩ := q
    refine ⟨c, r.bl_inv, ?_⟩
    cases c with
    | true => exact q.1 rfl G' σ H' hh R (hR.later e)
    | false => exact hR _ Γ' G' _ H' (q.2 rfl) e hh (.bl false))
theorem we_or (h : WE X F a Γ fun d Γ1 => ∃ c, d = .bl c ∧ (c = false → WE X F (.BoolOp .Or (b :: rest) pos) Γ1 Q) ∧ (c = true → Q (.bl true) Γ1)) : WE X F (.BoolOp .Or (a :: b :: rest) pos) Γ Q := fun G σ H hh R hR =>
  tU_of (pe_or pe_U pe_U) (h G σ H hh _ fun d Γ' G' v H' q e hh r => by
    obtain ⟨c, rfl, q⟩ := q
    refine ⟨c, r.bl_inv, ?_⟩
    cases c with
    | false => exact q.1 rfl G' σ H' hh R (hR.later e)
    | true => exact hR _ Γ' G' _ H' (q.2 rfl) e hh (.bl true))
theorem we_not (h : WE X F a Γ fun d Γ1 => ∃ c, d = .bl c ∧ Q (.bl (!c)) Γ1) : WE X F (.UnaryOp .Not a pos) Γ Q := fun G σ H hh R hR =>
  tU_of (pe_not pe_U) (h G σ H hh _ fun d Γ' G' v H' q e hh r => by
    obtain ⟨c, rfl, q⟩ := q
    exact ⟨c, r.bl_inv, hR _ Γ' G' _ H' q e hh (.bl _)⟩)
theorem we_ifexp {t c : Expr} (h : WT X F t Γ fun k Γ1 => (k = true → WE X F a Γ1 Q) ∧ (k = false → WE X F c Γ1 Q)) : WE X F (.IfExp t a c pos) Γ Q := fun G σ H hh R hR =>
  tU_of (pe_ifExp pt_U pe_U pe_U) (h G σ H hh _ fun k Γ' G' H' q e hh => by
    cases k with
    | true => exact q.1 rfl G' σ H' hh R (hR.later e)
    | false => exact q.2 rfl G' σ H' hh R (hR.later e))
end

/-! ### arguments, displays -/
theorem wa_nil {Q : List D → DL.Env → Prop} (q : Q [] Γ) : WA X F [] Γ Q := fun G σ H hh R hR => tUA_of pa_nil (hR [] Γ G [] H q (Same.refl G) hh Reps.nil)
theorem wa_cons {a : Expr} {es : List Expr} {Q : List D → DL.Env → Prop} (hs : starEach (a :: es) X.env = (false, eval a X.env) :: starEach es X.env) (h : WE X F a Γ fun d Γ1 => WA X F es Γ1 fun ds Γ2 => Q (d :: ds) Γ2) : WA X F (a :: es) Γ Q := fun G σ H hh R hR =>
  tUA_of (pa_cons pe_U pa_U hs) (h G σ H hh _ fun d Γ1 G1 v H1 q s1 h1 r => q G1 σ H1 h1 _ fun ds Γ2 G2 vs H2 q2 s2 h2 r2 => hR (d :: ds) Γ2 G2 (v :: vs) H2 q2 (s1.trans s2) h2 (Reps.cons (r.mono s2) r2))
/-- a tuple -/
theorem we_tup {es : List Expr} {k : Nat} {pos : Pos} (h : WA X F es Γ fun ds Γ1 => ds.length ≤ sizeLine ∧ Q (.tup ds) Γ1) : WE X F (.Tuple es k pos) Γ Q := fun G σ H hh R hR =>
  tU_of (pe_tup pa_U) (h G σ H hh _ fun ds Γ1 G1 vs H1 q s1 h1 r => ⟨by rw [r.1]; exact q.1, fun p hp => by
    obtain ⟨sg, h2⟩ := h1.newSh (o := .tup vs) hp
    exact hR _ Γ1 _ _ _ q.2 (s1.trans sg) h2 (.tup upd_same r.1 fun i v d a b => (r.2 i v d a b).mono sg)⟩)
/-- a list that is shared from the start; one that is owned -/
theorem we_lstS {es : List Expr} {pos : Pos} (h : WA X F es Γ fun ds Γ1 => ds.length ≤ sizeLine ∧ Q (.lst ds) Γ1) : WE X F (.List es pos) Γ Q := fun G σ H hh R hR =>
  tU_of (pe_lst pa_U) (h G σ H hh _ fun ds Γ1 G1 vs H1 q s1 h1 r => ⟨by rw [r.1]; exact q.1, fun p hp => by
    obtain ⟨sg, h2⟩ := h1.newSh (o := .lst vs) hp
    exact hR _ Γ1 _ _ _ q.2 (s1.trans sg) h2 (.lst upd_same r.1 fun i v d a b => (r.2 i v d a b).mono sg)⟩)
theorem we_lst {es : List Expr} {pos : Pos} (h : WA X F es Γ fun ds Γ1 => ds.length ≤ sizeLine ∧ ∀ p, Q (.ref p) ⟨Γ1.sl, (p, .lst ds) :: Γ1.M, Γ1.R⟩) : WE X F (.List es pos) Γ Q := fun G σ H hh R hR =>
  tU_of (pe_lst pa_U) (h G σ H hh _ fun ds Γ1 G1 vs H1 q s1 h1 r => ⟨by rw [r.1]; exact q.1, fun p hp =>
    hR _ _ G1 _ _ (q.2 p) s1 (h1.newOwn hp (.lst r)) (.ref p)⟩)
end
end DL

/-! The D layer, part 3: places, statements, operations by the makes of values. -/
namespace DL
open PySem PySem.Spec PyProof.Rows L2

/-! ### places, found by the instances -/
class At (M : Mem) (p : Addr) (c : outParam D) (k : outParam Nat) : Prop where
  e : M[k]? = some (p, c)
instance At.tail {M : Mem} {p q : Addr} {c e : D} {k : Nat} [h : At M p c k] : At ((q, e) :: M) p c (k + 1) := ⟨h.e⟩
instance At.head {M : Mem} {p : Addr} {c : D} : At ((p, c) :: M) p c 0 := ⟨rfl⟩
class SetM (M : Mem) (k : Nat) (q : Addr × D) (M' : outParam Mem) : Prop where
  e : M' = M.set k q
instance SetM.tail {M M' : Mem} {q r : Addr × D} {k : Nat} [h : SetM M k q M'] : SetM (r :: M) (k + 1) q (r :: M') := ⟨by rw [h.e]; rfl⟩
instance SetM.head {M : Mem} {q r : Addr × D} : SetM (r :: M) 0 q (q :: M) := ⟨rfl⟩
class DelM (M : Mem) (k : Nat) (M' : outParam Mem) : Prop where
  e : M' = M.eraseIdx k
instance DelM.tail {M M' : Mem} {r : Addr × D} {k : Nat} [h : DelM M k M'] : DelM (r :: M) (k + 1) (r :: M') := ⟨by rw [h.e]; rfl⟩
instance DelM.head {M : Mem} {r : Addr × D} : DelM (r :: M) 0 M := ⟨rfl⟩
class SetS (l : List (Option D)) (i : Nat) (d : Option D) (l' : outParam (List (Option D))) : Prop where
  e : l' = l.set i d
instance SetS.tail {l l' : List (Option D)} {x d : Option D} {k : Nat} [h : SetS l k d l'] : SetS (x :: l) (k + 1) d (x :: l') := ⟨by rw [h.e]; rfl⟩
instance SetS.head {l : List (Option D)} {x d : Option D} : SetS (x :: l) 0 d (d :: l) := ⟨rfl⟩
/-- the slots that hold the place p are turned to c -/
class FzS (l : List (Option D)) (p : Addr) (c : D) (l' : outParam (List (Option D))) : Prop where
  len : l'.length = l.length
  at_ : ∀ (i : Nat) (d : D), l'[i]? = some (some d) → l[i]? = some (some d) ∨ (l[i]? = some (some (.ref p)) ∧ d = c)
instance FzS.nil {p : Addr} {c : D} : FzS [] p c [] := ⟨rfl, fun i d h => .inl h⟩
instance FzS.skip {l l' : List (Option D)} {p : Addr} {c : D} {x : Option D} [h : FzS l p c l'] : FzS (x :: l) p c (x :: l') := ⟨by rw [List.length_cons, List.length_cons, h.len], fun i d e => by
  cases i with
  | zero => exact .inl e
  | succ i => exact h.at_ i d e⟩
instance FzS.turn {l l' : List (Option D)} {p : Addr} {c : D} [h : FzS l p c l'] : FzS (some (.ref p) :: l) p c (some c :: l') := ⟨by rw [List.length_cons, List.length_cons, h.len], fun i d e => by
  cases i with
  | zero =>
    have e' : (some (some c) : Option (Option D)) = some (some d) := e
    cases e'
    exact .inr ⟨rfl, rfl⟩
  | succ i => exact h.at_ i d e⟩

class SeeL (M R : Mem) (d : D) (ds : outParam (List D)) : Prop where
  see : See M R d (.lst ds)
class SeeT (M R : Mem) (d : D) (ds : outParam (List D)) : Prop where
  see : See M R d (.tup ds)
class SeeK (M R : Mem) (d : D) (kvs : outParam (List (Key × D))) : Prop where
  see : See M R d (.dK kvs)
class SeeDT (M R : Mem) (d : D) (kvs : outParam (List (List Key × D))) : Prop where
  see : See M R d (.dT kvs)
section
variable {M R : Mem} {d : D} {p : Addr} {k : Nat}
instance SeeL.self {ds : List D} : SeeL M R (.lst ds) ds := ⟨.self _⟩
instance SeeL.rd {ds : List D} [h : At R p (.lst ds) k] : SeeL M R (.ref p) ds := ⟨.rd (List.mem_of_getElem? h.e)⟩
instance SeeL.own {ds : List D} [h : At M p (.lst ds) k] : SeeL M R (.ref p) ds := ⟨.own (List.mem_of_getElem? h.e)⟩
instance SeeT.rd {ds : List D} [h : At R p (.tup ds) k] : SeeT M R (.ref p) ds := ⟨.rd (List.mem_of_getElem? h.e)⟩
instance SeeT.self {ds : List D} : SeeT M R (.tup ds) ds := ⟨.self _⟩
instance SeeK.self {ds : List (Key × D)} : SeeK M R (.dK ds) ds := ⟨.self _⟩
instance SeeK.rd {ds : List (Key × D)} [h : At R p (.dK ds) k] : SeeK M R (.ref p) ds := ⟨.rd (List.mem_of_getElem? h.e)⟩
instance SeeK.own {ds : List (Key × D)} [h : At M p (.dK ds) k] : SeeK M R (.ref p) ds := ⟨.own (List.mem_of_getElem? h.e)⟩
instance SeeDT.self {ds : List (List Key × D)} : SeeDT M R (.dT ds) ds := ⟨.self _⟩
instance SeeDT.rd {ds : List (List Key × D)} [h : At R p (.dT ds) k] : SeeDT M R (.ref p) ds := ⟨.rd (List.mem_of_getElem? h.e)⟩
instance SeeDT.own {ds : List (List Key × D)} [h : At M p (.dT ds) k] : SeeDT M R (.ref p) ds := ⟨.own (List.mem_of_getElem? h.e)⟩
instance (priority := low) SeeL.any' {ds : List D} [h : SeeL [] R d ds] : SeeL M R d ds := ⟨h.see.any⟩
instance (priority := low) SeeT.any' {ds : List D} [h : SeeT [] R d ds] : SeeT M R d ds := ⟨h.see.any⟩
instance (priority := low) SeeK.any' {ds : List (Key × D)} [h : SeeK [] R d ds] : SeeK M R d ds := ⟨h.see.any⟩
instance (priority := low) SeeDT.any' {ds : List (List Key × D)} [h : SeeDT [] R d ds] : SeeDT M R d ds := ⟨h.see.any⟩
theorem see_wk {q : Addr × D} {d c : D} (h : See [] R d c) : See [] (q :: R) d c := by
  cases h with
  | self => exact .self _
  | own h => cases h
  | rd h => exact .rd (List.mem_cons_of_mem _ h)
instance (priority := low) SeeL.wk {q : Addr × D} {ds : List D} [h : SeeL [] R d ds] : SeeL [] (q :: R) d ds := ⟨see_wk h.see⟩
instance (priority := low) SeeT.wk {q : Addr × D} {ds : List D} [h : SeeT [] R d ds] : SeeT [] (q :: R) d ds := ⟨see_wk h.see⟩
instance (priority := low) SeeK.wk {q : Addr × D} {ds : List (Key × D)} [h : SeeK [] R d ds] : SeeK [] (q :: R) d ds := ⟨see_wk h.see⟩
instance (priority := low) SeeDT.wk {q : Addr × D} {ds : List (List Key × D)} [h : SeeDT [] R d ds] : SeeDT [] (q :: R) d ds := ⟨see_wk h.see⟩
theorem SeeL.any {ds : List D} (h : SeeL [] R d ds) : SeeL M R d ds := ⟨h.see.any⟩
theorem SeeT.any {ds : List D} (h : SeeT [] R d ds) : SeeT M R d ds := ⟨h.see.any⟩
theorem SeeK.any {ds : List (Key × D)} (h : SeeK [] R d ds) : SeeK M R d ds := ⟨h.see.any⟩
theorem SeeDT.any {ds : List (List Key × D)} (h : SeeDT [] R d ds) : SeeDT M R d ds := ⟨h.see.any⟩
end
/-- a sequence: a list or a tuple -/
class SeeQ (M R : Mem) (d : D) (ds : outParam (List D)) : Prop where
  see : See M R d (.lst ds) ∨ See M R d (.tup ds)
instance SeeQ.l {M R : Mem} {d : D} {ds : List D} [h : SeeL M R d ds] : SeeQ M R d ds := ⟨.inl h.see⟩
instance SeeQ.t {M R : Mem} {d : D} {ds : List D} [h : SeeT M R d ds] : SeeQ M R d ds := ⟨.inr h.see⟩

section
variable {X : Cx} {F : Fr} {Γ : DL.Env} {Q : D → DL.Env → Prop} {sl sl' : List (Option D)} {M M' R : Mem}

/-! ### targets and statements -/
/-- a slot is set -/
def Put (i : Nat) (d : D) (Γ : DL.Env) (q : DL.Env → Prop) : Prop := q ⟨Γ.sl.set i (some d), Γ.M, Γ.R⟩
theorem put_go {i : Nat} {d : D} {q : DL.Env → Prop} [h : SetS sl i (some d) sl'] (h2 : q ⟨sl', M, R⟩) : Put i d ⟨sl, M, R⟩ q := by
  show q ⟨sl.set i (some d), M, R⟩
  rw [← h.e]; exact h2
theorem wg_name {i : Nat} {x : Str} {pos : Pos} {d : D} {QG : DL.Env → Prop} (hX : Std X) (n : StoreAt X i x) (q : Put i d Γ QG) : WG X F (.Name x pos) d Γ QG := fun G σ H v hh r K hK =>
  tUG_of (pg_name hX.nd n.hN n.loc n.fn) (hK _ G _ H q (Same.refl G) (hh.setSl r i))
theorem wgs_nil {QG : DL.Env → Prop} (q : QG Γ) : WGs X F [] [] Γ QG := fun G σ H vs hh r K hK => by
  rw [r.nil_inv]
  exact tUGs_of pgs_nil ⟨rfl, hK Γ G σ H q (Same.refl G) hh⟩
theorem wgs_cons {e : Expr} {es : List Expr} {d : D} {ds : List D} {QG : DL.Env → Prop} (hs : (assignEach (e :: es) X.env).map (·.2) = assign e X.env :: (assignEach es X.env).map (·.2)) (h : WG X F e d Γ fun Γ1 => WGs X F es ds Γ1 QG) : WGs X F (e :: es) (d :: ds) Γ QG := fun G σ H vs hh r K hK => by
  obtain ⟨v, vr, rfl, ra, rb⟩ := r.cons_inv
  refine tUGs_of (pgs_cons pg_U pgs_U hs) ⟨v, vr, rfl, h G σ H v hh ra _ fun Γ' G' σ' H' q s h' => q G' σ' H' vr h' (rb.mono s) K (hK.later s)⟩
theorem wg_tup {es : List Expr} {k : Nat} {pos : Pos} {d : D} {ds : List D} {QG : DL.Env → Prop} (hX : Std X) [s : SeeT M R d ds] (hn : (assignEach es X.env).length = ds.length) (hst : (assignEach es X.env).findIdx? (·.1) = none) (h : WGs X F es ds ⟨sl, M, R⟩ QG) : WG X F (.Tuple es k pos) d ⟨sl, M, R⟩ QG := fun G σ H v hh r K hK => by
  obtain ⟨p, vs, rfl, hS, hr⟩ := hh.seeT (K := X.K) r s.see
  exact tUG_of (pg_tup hX.calm pgs_U hn hst) ⟨p, vs, rfl, hS, hr.1, h G σ H vs hh hr K hK⟩
theorem wss_nil {O : Out} (q : O.nx Γ) : WSs X F [] Γ O := fun G σ H hh E hE => tUSs_of pss_nil (hE.nx Γ G σ H q (Same.refl G) hh)
theorem wss_cons {st : Stmt} {rest : List Stmt} {O : Out} (h : WS X F st Γ { O with nx := fun Γ1 => WSs X F rest Γ1 O }) : WSs X F (st :: rest) Γ O := fun G σ H hh E hE =>
  tUSs_of (pss_cons ps_U pss_U) (h G σ H hh _ ⟨fun Γ1 G1 σ1 H1 q s h1 => q G1 σ1 H1 h1 E (hE.later s), hE.rt, hE.bk, hE.ct⟩)
/-- a word between: what follows is shown once -/
theorem wss_cut {st : Stmt} {rest : List Stmt} {O : Out} (Mid : DL.Env → Prop) (h : WS X F st Γ { O with nx := Mid }) (h2 : ∀ Γ1, Mid Γ1 → WSs X F rest Γ1 O) : WSs X F (st :: rest) Γ O := fun G σ H hh E hE =>
  tUSs_of (pss_cons ps_U pss_U) (h G σ H hh _ ⟨fun Γ1 G1 σ1 H1 q s h1 => h2 _ q G1 σ1 H1 h1 E (hE.later s), hE.rt, hE.bk, hE.ct⟩)
theorem ws_mono {st : Stmt} {O O' : Out} (h : WS X F st Γ O) (h1 : ∀ Γ, O.nx Γ → O'.nx Γ) (h2 : ∀ d Γ, O.rt d Γ → O'.rt d Γ) (h3 : ∀ Γ, O.bk Γ → O'.bk Γ) (h4 : ∀ Γ, O.ct Γ → O'.ct Γ) : WS X F st Γ O' := fun G σ H hh E hE =>
  h G σ H hh E ⟨fun Γ' G' σ' H' q => hE.nx Γ' G' σ' H' (h1 _ q), fun d Γ' G' σ' v H' q => hE.rt d Γ' G' σ' v H' (h2 _ _ q), fun Γ' G' σ' H' q => hE.bk Γ' G' σ' H' (h3 _ q), fun Γ' G' σ' H' q => hE.ct Γ' G' σ' H' (h4 _ q)⟩
theorem wss_mono {st : List Stmt} {O O' : Out} (h : WSs X F st Γ O) (h1 : ∀ Γ, O.nx Γ → O'.nx Γ) (h2 : ∀ d Γ, O.rt d Γ → O'.rt d Γ) (h3 : ∀ Γ, O.bk Γ → O'.bk Γ) (h4 : ∀ Γ, O.ct Γ → O'.ct Γ) : WSs X F st Γ O' := fun G σ H hh E hE =>
  h G σ H hh E ⟨fun Γ' G' σ' H' q => hE.nx Γ' G' σ' H' (h1 _ q), fun d Γ' G' σ' v H' q => hE.rt d Γ' G' σ' v H' (h2 _ _ q), fun Γ' G' σ' H' q => hE.bk Γ' G' σ' H' (h3 _ q), fun Γ' G' σ' H' q => hE.ct Γ' G' σ' H' (h4 _ q)⟩
theorem ws_asg {tg e : Expr} {pos : Pos} {O : Out} (hs : swapsWithSole [tg] e pos.line X.env = pure false) (hw : swappedStores [tg] e X.env = pure none) (h1 : (assignEach [tg] X.env).map (·.2) = [assign tg X.env]) (h : WE X F e Γ fun d Γ1 => WG X F tg d Γ1 O.nx) : WS X F (.Assign [tg] e pos) Γ O := fun G σ H hh E hE =>
  tUS_of (ps_asg pe_U pg_U hs hw h1) (h G σ H hh _ fun d Γ1 G1 v H1 q s h1 r => q G1 σ H1 v h1 r _ (hE.nx.later s))
/-- x = e -/
theorem ws_set {i : Nat} {x : Str} {e : Expr} {pos pos' : Pos} {O : Out} (hX : Std X) (n : StoreAt X i x) (hs : swapsWith e (some (.Name x pos')) pos.line X.env = pure false)
    (h : WE X F e Γ fun d Γ1 => Put i d Γ1 O.nx) : WS X F (.Assign [.Name x pos'] e pos) Γ O := fun G σ H hh E hE =>
  tUS_of (ps_set hX.nd n.hN n.loc pe_U hs n.fn) (h G σ H hh _ fun d Γ1 G1 v H1 q s h1 r => hE.nx _ G1 _ H1 q s (h1.setSl r i))
theorem ws_expr {e : Expr} {pos : Pos} {O : Out} (hs : swapsWith e none pos.line X.env = pure false) (h : WE X F e Γ fun _ Γ1 => O.nx Γ1) : WS X F (.Expr e pos) Γ O := fun G σ H hh E hE =>
  tUS_of (ps_expr pe_U hs) (h G σ H hh _ fun d Γ1 G1 v H1 q s h1 r => hE.nx Γ1 G1 σ H1 q s h1)
theorem ws_ret {e : Expr} {pos : Pos} {O : Out} (h : WE X F e Γ O.rt) : WS X F (.Return (some e) pos) Γ O := fun G σ H hh E hE =>
  tUS_of (ps_ret pe_U) (h G σ H hh _ fun d Γ1 G1 v H1 q s h1 r => hE.rt d Γ1 G1 σ v H1 q s h1 r)
theorem ws_retN {pos : Pos} {O : Out} (q : O.rt .non Γ) : WS X F (.Return none pos) Γ O := fun G σ H hh E hE => tUS_of ps_retN (hE.rt .non Γ G σ .non H q (Same.refl G) hh .non)
theorem ws_pass {pos : Pos} {O : Out} (q : O.nx Γ) : WS X F (.Pass pos) Γ O := fun G σ H hh E hE => tUS_of ps_pass (hE.nx Γ G σ H q (Same.refl G) hh)
theorem ws_break {pos : Pos} {O : Out} (q : O.bk Γ) : WS X F (.Break pos) Γ O := fun G σ H hh E hE => tUS_of ps_break (hE.bk Γ G σ H q (Same.refl G) hh)
theorem ws_continue {pos : Pos} {O : Out} (q : O.ct Γ) : WS X F (.Continue pos) Γ O := fun G σ H hh E hE => tUS_of ps_continue (hE.ct Γ G σ H q (Same.refl G) hh)
theorem ws_if {c : Expr} {a b : List Stmt} {pos : Pos} {O : Out} (h : WT X F c Γ fun k Γ1 => (k = true → WSs X F a Γ1 O) ∧ (k = false → WSs X F b Γ1 O)) : WS X F (.If c a b pos) Γ O := fun G σ H hh E hE =>
  tUS_of (ps_if pt_U pss_U pss_U) (h G σ H hh _ fun k Γ1 G1 H1 q s h1 => by
    cases k with
    | true => exact q.1 rfl G1 σ H1 h1 E (hE.later s)
    | false => exact q.2 rfl G1 σ H1 h1 E (hE.later s))
/-- a while: the word by a measure -/
theorem ws_while {c : Expr} {body : List Stmt} {pos : Pos} {O : Out} (hX : Std X) (W : Nat → DL.Env → Prop) (h0 : ∃ m, W m Γ)
    (hs : ∀ m Γ1, W m Γ1 → WT X F c Γ1 fun k Γ2 => (k = true → WSs X F body Γ2 { nx := fun Γ3 => ∃ m', m' < m ∧ W m' Γ3, rt := O.rt, bk := O.nx, ct := fun Γ3 => ∃ m', m' < m ∧ W m' Γ3 }) ∧ (k = false → O.nx Γ2)) : WS X F (.While c body [] pos) Γ O := fun G σ H hh E hE => by
  refine tUS_of (ps_while hX.own pt_U pss_U) ?_
  obtain ⟨m0, w0⟩ := h0
  refine ⟨fun m σ1 H1 => ∃ Γ1 G1, Same G G1 ∧ Holds F G1 Γ1 σ1 H1 ∧ W m Γ1, ⟨m0, Γ, G, Same.refl G, hh, w0⟩, fun m σ1 H1 hW => ?_⟩
  obtain ⟨Γ1, G1, s1, h1, w1⟩ := hW
  refine hs m Γ1 w1 G1 σ1 H1 h1 _ fun k Γ2 G2 H2 q s2 h2 => ?_
  cases k with
  | false => exact hE.nx Γ2 G2 σ1 H2 (q.2 rfl) (s1.trans s2) h2
  | true =>
    refine ⟨fun σ3 H3 => ∃ m', m' < m ∧ ∃ Γ3 G3, Same G G3 ∧ Holds F G3 Γ3 σ3 H3 ∧ W m' Γ3, fun σ3 H3 hN => hN, q.1 rfl G2 σ1 H2 h2 _ ⟨?_, ?_, ?_, ?_⟩⟩
    · exact fun Γ3 G3 σ3 H3 ⟨m', hm, w⟩ s3 h3 => ⟨m', hm, Γ3, G3, (s1.trans s2).trans s3, h3, w⟩
    · exact fun d Γ3 G3 σ3 v H3 q3 s3 h3 r3 => hE.rt d Γ3 G3 σ3 v H3 q3 ((s1.trans s2).trans s3) h3 r3
    · exact fun Γ3 G3 σ3 H3 q3 s3 h3 => hE.nx Γ3 G3 σ3 H3 q3 ((s1.trans s2).trans s3) h3
    · exact fun Γ3 G3 σ3 H3 ⟨m', hm, w⟩ s3 h3 => ⟨m', hm, Γ3, G3, (s1.trans s2).trans s3, h3, w⟩

/-! ### what is walked -/
def ItSem (F : Fr) (G1 : Hp) (J : It) (items : List D) (stand : DL.Env → Prop) : Prop :=
  ∀ Γ' G' σ' H', Same G1 G' → Holds F G' Γ' σ' H' → stand Γ' → J.stop items.length H' ∧ ∀ (i : Nat) x, items[i]? = some x → J.go i H' ∧ ∀ v H'', J.yld i H' v H'' → ∃ G'', Same G' G'' ∧ Holds F G'' Γ' σ' H'' ∧ Rep G'' v x
def GoodI (F : Fr) (K : List D → (DL.Env → Prop) → DL.Env → Prop) (G : Hp) (σ : L2.St) (R : It → Hp → Prop) : Prop :=
  ∀ items stand Γ1 G1 H1 J, K items stand Γ1 → Same G G1 → Holds F G1 Γ1 σ H1 → ItSem F G1 J items stand → R J H1
def WI (X : Cx) (F : Fr) (tg iter : Expr) (Γ : DL.Env) (K : List D → (DL.Env → Prop) → DL.Env → Prop) : Prop := ∀ G σ H, Holds F G Γ σ H → ∀ R, GoodI F K G σ R → ∀ (pins : List (Addr × Obj)) (s : Shared), Inv X pins σ H s →
  wpAny (model X.prog X.w) X.A (eval iter X.env) (fun v s1 => wpAny (model X.prog X.w) X.A (pyIter v) (PIE X pins σ tg R) X.xe s1) X.xe s
def WIV (X : Cx) (F : Fr) (tg : Expr) (d : D) (Γ : DL.Env) (K : List D → (DL.Env → Prop) → DL.Env → Prop) : Prop := ∀ G σ H x, Holds F G Γ σ H → Rep G x d → ∀ R, GoodI F K G σ R → ∀ (pins : List (Addr × Obj)) (s : Shared) (v : Value), Inv X pins σ H s → RelV x v →
  wpAny (model X.prog X.w) X.A (pyIter v) (PIE X pins σ tg R) X.xe s
def tUI (X : Cx) (tg iter : Expr) : TI := fun σ H R => ∀ (pins : List (Addr × Obj)) (s : Shared), Inv X pins σ H s → wpAny (model X.prog X.w) X.A (eval iter X.env) (fun v s1 => wpAny (model X.prog X.w) X.A (pyIter v) (PIE X pins σ tg R) X.xe s1) X.xe s
theorem pi_U {tg iter : Expr} : PI X tg iter (tUI X tg iter) := ⟨fun pins s _ _ _ I h => h pins s I⟩
variable {K : List D → (DL.Env → Prop) → DL.Env → Prop} {tg iter : Expr}
theorem wi_val (h : WE X F iter Γ fun d Γ1 => WIV X F tg d Γ1 K) : WI X F tg iter Γ K := fun G σ H hh R hR pins s I => by
  refine thn (pe_U.run pins s σ H (fun x H1 => ∀ (pins : List (Addr × Obj)) (s : Shared) (v : Value), Inv X pins σ H1 s → RelV x v → wpAny (model X.prog X.w) X.A (pyIter v) (PIE X pins σ tg R) X.xe s) I ?_) fun v s1 ⟨x, H1, I1, r1, q1⟩ => q1 pins s1 v I1 r1
  exact h G σ H hh _ fun d Γ1 G1 v1 H1 q s1 h1 r1 => q G1 σ H1 v1 h1 r1 R fun items stand Γ2 G2 H2 J k s2 => hR items stand Γ2 G2 H2 J k (s1.trans s2)
theorem wiv_list {d : D} {ds : List D} [sd : SeeL M R d ds] (h : K ds (fun Γ' => See Γ'.M Γ'.R d (.lst ds)) ⟨sl, M, R⟩) : WIV X F tg d ⟨sl, M, R⟩ K := fun G σ H x hh r Q hQ pins s v I rv => by
  obtain ⟨p, vs, rfl, hS, hr⟩ := hh.seeL (K := X.K) r sd.see
  cases rv
  obtain ⟨its, rvs, pr, hz⟩ := I.list hS
  refine wpAny_pyIter_list pr.isList ?_
  refine ⟨s.heap.objs.size, [s.heap.objs.size], _, _, H, rfl, I.kept (t' := s.toks) fun b o e => Heap.get?_push_of_some _ e, turn_list p _, ⟨_, Heap.get?_push_size _ rfl, rfl, rfl⟩, fun b hb => ?_, hQ ds _ _ G H _ h (Same.refl G) hh ?_⟩
  · have e : b = s.heap.objs.size := by simpa using hb
    subst e
    exact I.fpOk (Nat.le_refl _) (I.hok.fresh (Nat.le_refl _))
  · intro Γ' G' σ' H' sg h' st
    obtain ⟨p', vs', e', hS', hr'⟩ := h'.seeL (K := X.K) (r.mono sg) st
    cases e'
    refine ⟨⟨vs', hS', by rw [hr'.1]; exact Nat.le_refl _⟩, fun i y hy => ?_⟩
    obtain ⟨w, hw, rw'⟩ := hr'.get hy
    exact ⟨⟨vs', w, hS', hw⟩, fun u H'' ⟨e1, e2⟩ => ⟨G', Same.refl G', by rw [e1]; exact h', by
      have := e2 vs' hS'
      rw [hw] at this; cases this; exact rw'⟩⟩
theorem wiv_tup {d : D} {ds : List D} [sd : SeeT M R d ds] (h : K ds (fun Γ' => See Γ'.M Γ'.R d (.tup ds)) ⟨sl, M, R⟩) : WIV X F tg d ⟨sl, M, R⟩ K := fun G σ H x hh r Q hQ pins s v I rv => by
  obtain ⟨p, vs, rfl, hS, hr⟩ := hh.seeT (K := X.K) r sd.see
  cases rv
  have hp := (pi_tup (tg := tg) (X := X) (l := .Constant .none 0 ⟨0, 0, 0, 0⟩) (tl := fun σ' H' Q' => False) ⟨fun _ _ _ _ _ _ z => z.elim⟩)
  obtain ⟨its, rvs, pr, hz⟩ := I.tuple hS
  refine wpAny_pyIter_tuple pr ?_
  refine ⟨s.heap.objs.size, [s.heap.objs.size], _, _, H, rfl, I.kept (t' := s.toks) fun b o e => Heap.get?_push_of_some _ e, turn_tuple p _, ⟨_, Heap.get?_push_size _ rfl, rfl, rfl⟩, fun b hb => ?_, hQ ds _ _ G H _ h (Same.refl G) hh ?_⟩
  · have e : b = s.heap.objs.size := by simpa using hb
    subst e
    exact I.fpOk (Nat.le_refl _) (I.hok.fresh (Nat.le_refl _))
  · intro Γ' G' σ' H' sg h' st
    obtain ⟨p', vs', e', hS', hr'⟩ := h'.seeT (K := X.K) (r.mono sg) st
    cases e'
    refine ⟨⟨vs', hS', by rw [hr'.1]; exact Nat.le_refl _⟩, fun i y hy => ?_⟩
    obtain ⟨w, hw, rw'⟩ := hr'.get hy
    exact ⟨⟨vs', w, hS', hw⟩, fun u H'' ⟨e1, e2⟩ => ⟨G', Same.refl G', by rw [e1]; exact h', by
      have := e2 vs' hS'
      rw [hw] at this; cases this; exact rw'⟩⟩
/-- the ints lo, lo + 1, .. (n of them) -/
def rngD (lo : Int) (n : Nat) : List D := (List.range n).map fun (i : Nat) => D.int (lo + (i : Int))
theorem rngD_len {lo : Int} {n : Nat} : (rngD lo n).length = n := by unfold rngD; rw [List.length_map, List.length_range]
theorem rngD_at {lo : Int} {n i : Nat} {x : D} (h : (rngD lo n)[i]? = some x) : i < n ∧ x = .int (lo + (i : Int)) := by
  unfold rngD at h
  rw [List.getElem?_map] at h
  obtain ⟨y, e, rfl⟩ := Option.map_eq_some_iff.mp h
  obtain ⟨hy, e2⟩ := List.getElem?_eq_some_iff.mp e
  rw [List.length_range] at hy
  rw [List.getElem_range] at e2
  subst e2
  exact ⟨hy, rfl⟩
theorem itSem_range {G1 : Hp} {lo : Int} {n : Nat} : ItSem F G1 (Itr lo n) (rngD lo n) fun _ => True := by
  intro Γ' G' σ' H' sg h' _
  refine ⟨by rw [rngD_len]; exact Nat.le_refl _, fun i x hx => ?_⟩
  obtain ⟨hi, rfl⟩ := rngD_at hx
  exact ⟨hi, fun v H'' ⟨e1, e2⟩ => ⟨G', Same.refl G', by rw [e1]; exact h', by rw [e2]; exact .int _⟩⟩
theorem wi_range1 {a : Expr} {p pos : Pos} (hg : Gl X "range") (hm : X.mg "range" = none) (hs : starEach [a] X.env = [(false, eval a X.env)])
    (h : WE X F a Γ fun d Γ1 => ∃ j : Int, d = .int j ∧ (-(2 ^ 62) ≤ j ∧ j < 2 ^ 62) ∧ K (rngD 0 j.toNat) (fun _ => True) Γ1) : WI X F tg (.Call (.Name "range" p) [a] [] pos) Γ K := fun G σ H hh R hR pins s I => by
  refine (pi_range1 (tg := tg) hg hm (pa_cons pe_U pa_nil (by rw [hs]; rfl)) hs).run pins s σ H R I ?_
  refine h G σ H hh _ fun d Γ1 G1 v H1 q s1 h1 r => ?_
  obtain ⟨j, rfl, ⟨b1, b2⟩, k⟩ := q
  rw [r.int_inv]
  exact ⟨j, rfl, b1, b2, hR _ _ Γ1 G1 H1 _ k s1 h1 itSem_range⟩
theorem wi_range2 {a b : Expr} {p pos : Pos} (hg : Gl X "range") (hm : X.mg "range" = none) (hs : starEach [a, b] X.env = [(false, eval a X.env), (false, eval b X.env)]) (hs2 : starEach [b] X.env = [(false, eval b X.env)])
    (h : WE X F a Γ fun d Γ1 => ∃ i : Int, d = .int i ∧ WE X F b Γ1 fun e Γ2 => ∃ j : Int, e = .int j ∧ (-(2 ^ 62) ≤ i ∧ i < 2 ^ 62 ∧ -(2 ^ 62) ≤ j ∧ j < 2 ^ 62) ∧ K (rngD i (j - i).toNat) (fun _ => True) Γ2) :
    WI X F tg (.Call (.Name "range" p) [a, b] [] pos) Γ K := fun G σ H hh R hR pins s I => by
  refine (pi_range2 (tg := tg) hg hm (pa_cons pe_U (pa_cons pe_U pa_nil (by rw [hs2]; rfl)) (by rw [hs, hs2])) hs hs2).run pins s σ H R I ?_
  refine h G σ H hh _ fun d Γ1 G1 v H1 q s1 h1 r => ?_
  obtain ⟨i, rfl, q⟩ := q
  refine q G1 σ H1 h1 _ fun e Γ2 G2 u H2 q2 s2 h2 r2 => ?_
  obtain ⟨j, rfl, b1, k⟩ := q2
  rw [r.int_inv, r2.int_inv]
  exact ⟨i, j, rfl, b1, hR _ _ Γ2 G2 H2 _ k (s1.trans s2) h2 itSem_range⟩
/-- a for: the word by the turn -/
theorem ws_for {body : List Stmt} {pos : Pos} {O : Out} (hX : Std X) (hs : ∀ x, foldedSetIterable iter X.env x = pure x)
    (h : WI X F tg iter Γ fun items stand Γ1 => ∃ W : Nat → DL.Env → Prop, W 0 Γ1 ∧ (∀ i Γ', W i Γ' → stand Γ') ∧
      (∀ (i : Nat) x Γ', items[i]? = some x → W i Γ' → WG X F tg x Γ' fun Γ2 => WSs X F body Γ2 { nx := W (i + 1), rt := O.rt, bk := O.nx, ct := W (i + 1) }) ∧ ∀ Γ', W items.length Γ' → O.nx Γ') : WS X F (.For tg iter body [] pos) Γ O := fun G σ H hh E hE => by
  refine tUS_of (ps_for (g := tUG X tg) (tb := tUSs X body) (wi := tUI X tg iter) hX.own hX.calm pi_U pg_U pss_U hs) ?_
  refine h G σ H hh _ fun items stand Γ1 G1 H1 J q s1 h1 js => ?_
  obtain ⟨W, w0, wst, turn, done⟩ := q
  refine ⟨fun i m σ' H' => i + m = items.length ∧ ∃ Γ' G', Same G1 G' ∧ Holds F G' Γ' σ' H' ∧ W i Γ', ⟨items.length, by omega, Γ1, G1, Same.refl _, h1, w0⟩, fun i m σ' H' hW => ?_⟩
  obtain ⟨em, Γ', G', sg, h', w⟩ := hW
  obtain ⟨stop, go⟩ := js Γ' G' σ' H' sg h' (wst i Γ' w)
  by_cases hi : i < items.length
  · obtain ⟨g1, g2⟩ := go i items[i] (List.getElem?_eq_getElem hi)
    refine .inr ⟨g1, fun σ3 H3 => ∃ Γ3 G3, Same G1 G3 ∧ Holds F G3 Γ3 σ3 H3 ∧ W (i + 1) Γ3, fun σ3 H3 ⟨Γ3, G3, a, b, c⟩ => ⟨m - 1, by omega, by omega, Γ3, G3, a, b, c⟩, fun v H'' y => ?_⟩
    obtain ⟨G2, s2, h2, r2⟩ := g2 v H'' y
    refine turn i _ Γ' (List.getElem?_eq_getElem hi) w G2 σ' H'' v h2 r2 _ fun Γ2 G3 σ2 H2 q2 s3 h3 => ?_
    refine q2 G3 σ2 H2 h3 _ ⟨?_, ?_, ?_, ?_⟩
    · exact fun Γ4 G4 σ4 H4 q4 s4 h4 => ⟨Γ4, G4, ((sg.trans s2).trans s3).trans s4, h4, q4⟩
    · exact fun d Γ4 G4 σ4 v4 H4 q4 s4 h4 r4 => hE.rt d Γ4 G4 σ4 v4 H4 q4 ((((s1.trans sg).trans s2).trans s3).trans s4) h4 r4
    · exact fun Γ4 G4 σ4 H4 q4 s4 h4 => hE.nx Γ4 G4 σ4 H4 q4 ((((s1.trans sg).trans s2).trans s3).trans s4) h4
    · exact fun Γ4 G4 σ4 H4 q4 s4 h4 => ⟨Γ4, G4, ((sg.trans s2).trans s3).trans s4, h4, q4⟩
  · have ei : i = items.length := by omega
    subst ei
    exact .inl ⟨stop, hE.nx Γ' G' σ' H' (done Γ' w) (s1.trans sg) h'⟩
end
end DL

/-! The D layer, part 4: sharing, defs and their calls, subscripts, built-ins. -/
namespace DL
open PySem PySem.Spec PyProof.Rows L2

section
variable {X : Cx} {F : Fr} {Γ : DL.Env} {Q : D → DL.Env → Prop} {sl sl' : List (Option D)} {M M' R : Mem}

/-! ### an owned list becomes a shared one -/
def Fz (F : Fr) (d : D) (Γ : DL.Env) (Q : D → DL.Env → Prop) : Prop := ∀ G σ H v, Holds F G Γ σ H → Rep G v d → ∃ Γ' G' d', Q d' Γ' ∧ Same G G' ∧ Holds F G' Γ' σ H ∧ Rep G' v d'
theorem fz_id {d : D} (q : Q d Γ) : Fz F d Γ Q := fun G σ H v hh r => ⟨Γ, G, d, q, Same.refl G, hh, r⟩
theorem fz_lst {p : Addr} {ds : List D} {k : Nat} [h : At M p (.lst ds) k] [h2 : DelM M k M'] [h3 : FzS sl p (.lst ds) sl'] (q : Q (.lst ds) ⟨sl', M', R⟩) : Fz F (.ref p) ⟨sl, M, R⟩ Q := fun G σ H v hh r => by
  obtain ⟨G', sg, rp, h'⟩ := hh.freeze h.e (.inl ⟨_, rfl⟩) sl' h3.len h3.at_
  rw [r.ref_inv]
  refine ⟨_, G', _, q, sg, ?_, rp⟩
  rw [h2.e]; exact h'
theorem fz_tup {p : Addr} {ds : List D} {k : Nat} [h : At M p (.tup ds) k] [h2 : DelM M k M'] [h3 : FzS sl p (.tup ds) sl'] (q : Q (.tup ds) ⟨sl', M', R⟩) : Fz F (.ref p) ⟨sl, M, R⟩ Q := fun G σ H v hh r => by
  obtain ⟨G', sg, rp, h'⟩ := hh.freeze h.e (.inr ⟨_, rfl⟩) sl' h3.len h3.at_
  rw [r.ref_inv]
  refine ⟨_, G', _, q, sg, ?_, rp⟩
  rw [h2.e]; exact h'
theorem we_fz {e : Expr} (h : WE X F e Γ fun d Γ1 => Fz F d Γ1 Q) : WE X F e Γ Q := fun G σ H hh R hR => h G σ H hh R fun d Γ1 G1 v H1 q s1 h1 r => by
  obtain ⟨Γ2, G2, d2, q2, s2, h2, r2⟩ := q G1 σ H1 v h1 r
  exact hR d2 Γ2 G2 v H1 q2 (s1.trans s2) h2 r2
/-- arguments that are to be shared -/
def WAV (X : Cx) (F : Fr) (es : List Expr) (Γ : DL.Env) (Q : List D → DL.Env → Prop) : Prop := WA X F es Γ Q
theorem wav_nil {Q : List D → DL.Env → Prop} (q : Q [] Γ) : WAV X F [] Γ Q := wa_nil q
theorem wav_cons {a : Expr} {es : List Expr} {Q : List D → DL.Env → Prop} (hs : starEach (a :: es) X.env = (false, eval a X.env) :: starEach es X.env) (h : WE X F a Γ fun d Γ1 => Fz F d Γ1 fun d Γ1 => WAV X F es Γ1 fun ds Γ2 => Q (d :: ds) Γ2) : WAV X F (a :: es) Γ Q := wa_cons hs (we_fz h)
theorem we_tupV {es : List Expr} {k : Nat} {pos : Pos} (h : WAV X F es Γ fun ds Γ1 => ds.length ≤ sizeLine ∧ Q (.tup ds) Γ1) : WE X F (.Tuple es k pos) Γ Q := we_tup h
theorem we_lstV {es : List Expr} {pos : Pos} (h : WAV X F es Γ fun ds Γ1 => ds.length ≤ sizeLine ∧ ∀ p, Q (.ref p) ⟨Γ1.sl, (p, .lst ds) :: Γ1.M, Γ1.R⟩) : WE X F (.List es pos) Γ Q := we_lst h

/-! ### subscripts -/
def WX (X : Cx) (F : Fr) (a b : Expr) (d1 d2 : D) (Γ : DL.Env) (Q : D → DL.Env → Prop) : Prop :=
  ∀ G σ H x y, Holds F G Γ σ H → Rep G x d1 → Rep G y d2 → ∀ R, Good F Q G σ R → ∀ (pins : List (Addr × Obj)) (s : Shared) (v u : Value), Inv X pins σ H s → RelV x v → RelV y u → subscripted b false v u = operate [v, u] (getItem v u) →
    wpAny (model X.prog X.w) X.A (subscriptTail a b v u) (EP X pins σ R) X.xe s
theorem we_ix {a b : Expr} {pos : Pos} (hs : PlainIx b) (h : WE X F a Γ fun d1 Γ1 => WE X F b Γ1 fun d2 Γ2 => WX X F a b d1 d2 Γ2 Q) : WE X F (.Subscript a b pos) Γ Q := by
  intro G σ H hh R hR pins s I
  refine Subscript_ (binT (R := fun x y H2 => ∀ (pins : List (Addr × Obj)) (s : Shared) (v u : Value), Inv X pins σ H2 s → RelV x v → RelV y u → subscripted b false v u = operate [v, u] (getItem v u) → wpAny (model X.prog X.w) X.A (subscriptTail a b v u) (EP X pins σ R) X.xe s)
    pe_U pe_U I ?_ fun v u s2 x y H2 I2 rx ry q => q _ _ _ _ I2 rx ry (hs _ _))
  refine h G σ H hh _ fun d1 Γ1 G1 v1 H1 q1 s1 h1 r1 => ?_
  refine q1 G1 σ H1 h1 _ fun d2 Γ2 G2 v2 H2 q2 s2 h2 r2 => ?_
  exact q2 G2 σ H2 v1 v2 h2 (r1.mono s2) r2 R (hR.later (s1.trans s2))
variable {ea eb : Expr}
theorem atI_rep {G : Hp} {vs : List V} {ds : List D} (r : Reps G vs ds) {i : Int} {x : D} (h : atI ds i = some x) : ∃ v, atI vs i = some v ∧ Rep G v x := by
  unfold atI at h ⊢
  rw [r.1]
  cases e : ixN ds.length i with
  | none => rw [e] at h; cases h
  | some j =>
    rw [e] at h
    exact r.get h
theorem wx_list {d : D} {ds : List D} {i : Int} {x : D} [sd : SeeL M R d ds] (ha : atI ds i = some x) (q : Q x ⟨sl, M, R⟩) : WX X F ea eb d (.int i) ⟨sl, M, R⟩ Q := fun G σ H v1 v2 hh r1 r2 R hR pins s v u I rv ru hs => by
  obtain ⟨p, vs, rfl, hS, hr⟩ := hh.seeL (K := X.K) r1 sd.see
  obtain ⟨w, hw, rw'⟩ := atI_rep hr ha
  rw [r2.int_inv] at ru
  exact ix_list ea eb pins s σ H (.ref p) (.int i) v u R I rv ru ⟨p, vs, i, w, rfl, rfl, hS, hw, hR.here hh q rw'⟩ hs
theorem wx_tup {d : D} {ds : List D} {i : Int} {x : D} [sd : SeeT M R d ds] (ha : atI ds i = some x) (q : Q x ⟨sl, M, R⟩) : WX X F ea eb d (.int i) ⟨sl, M, R⟩ Q := fun G σ H v1 v2 hh r1 r2 R hR pins s v u I rv ru hs => by
  obtain ⟨p, vs, rfl, hS, hr⟩ := hh.seeT (K := X.K) r1 sd.see
  obtain ⟨w, hw, rw'⟩ := atI_rep hr ha
  rw [r2.int_inv] at ru
  exact ix_tup ea eb pins s σ H (.ref p) (.int i) v u R I rv ru ⟨p, vs, i, w, rfl, rfl, hS, hw, hR.here hh q rw'⟩ hs
theorem wx_str {z : Str} {i : Int} {c : Nat} (hz : z.length ≤ sizeLine) (ha : atI z.cps.toList i = some c) (q : Q (.str ⟨#[c]⟩) Γ) : WX X F ea eb (.str z) (.int i) Γ Q := fun G σ H v1 v2 hh r1 r2 R hR pins s v u I rv ru hs => by
  rw [r1.str_inv] at rv
  rw [r2.int_inv] at ru
  exact ix_str ea eb pins s σ H (.str z) (.int i) v u R I rv ru ⟨z, i, c, rfl, rfl, hz, ha, hR.here hh q (.str _)⟩ hs

/-! dicts -/
def kD : Key → D
  | .inl i => .int i
  | .inr x => .str x
theorem Rep.kD {G : Hp} (k : Key) : Rep G (kV k) (kD k) := by
  cases k with
  | inl i => exact .int i
  | inr x => exact .str x
theorem Rep.kD_inv {G : Hp} {v : V} {k : Key} (r : Rep G v (DL.kD k)) : v = kV k := by
  cases k with
  | inl i => exact r.int_inv
  | inr x => exact r.str_inv
theorem Reps.kD_inv {G : Hp} : ∀ {vs : List V} {k : List Key}, Reps G vs (k.map DL.kD) → vs = k.map kV
  | vs, [], h => h.nil_inv
  | vs, a :: k, h => by
    obtain ⟨v, vr, rfl, ra, rb⟩ := Reps.cons_inv (ds := k.map DL.kD) h
    rw [ra.kD_inv, Reps.kD_inv rb]; rfl
def lookD {κ : Type} [DecidableEq κ] (kvs : List (κ × D)) (k : κ) : Option D := (kvs.find? fun kv => decide (kv.1 = k)).map (·.2)
def putD {κ : Type} [DecidableEq κ] (kvs : List (κ × D)) (k : κ) (v : D) : List (κ × D) :=
  if (kvs.any fun kv => decide (kv.1 = k)) = true then kvs.map (fun kv => if kv.1 = k then (kv.1, v) else kv) else kvs ++ [(k, v)]
def dropD {κ : Type} [DecidableEq κ] (kvs : List (κ × D)) (k : κ) : List (κ × D) := kvs.filter fun kv => decide (kv.1 ≠ k)
section
variable {κ : Type} [DecidableEq κ]
theorem look_rep {G : Hp} (k : κ) : ∀ {kvs : List (κ × V)} {kds : List (κ × D)}, kvs.map (·.1) = kds.map (·.1) → Reps G (kvs.map (·.2)) (kds.map (·.2)) →
    (valV kvs k = none ∧ lookD kds k = none) ∨ ∃ v d, valV kvs k = some v ∧ lookD kds k = some d ∧ Rep G v d
  | [], [], _, _ => .inl ⟨rfl, rfl⟩
  | [], _ :: _, h, _ => by simp at h
  | _ :: _, [], h, _ => by simp at h
  | (a, v) :: kvs, (b, d) :: kds, h, r => by
    have h1 : a = b := by simpa using (List.cons.inj h).1
    have h2 := (List.cons.inj h).2
    subst h1
    have rh : Rep G v d := Reps.head (vs := kvs.map Prod.snd) (ds := kds.map Prod.snd) r
    have rt : Reps G (kvs.map (·.2)) (kds.map (·.2)) := Reps.tail (v := v) (d := d) r
    by_cases e : a = k
    · exact .inr ⟨v, d, by simp [valV, e], by simp [lookD, e], rh⟩
    · rcases look_rep k h2 rt with ⟨e1, e2⟩ | ⟨w, x, e1, e2, rr⟩
      · exact .inl ⟨by rw [valV_neg e]; exact e1, by unfold lookD at e2 ⊢; simp only [List.find?_cons, decide_eq_false e]; exact e2⟩
      · exact .inr ⟨w, x, by rw [valV_neg e]; exact e1, by unfold lookD at e2 ⊢; simp only [List.find?_cons, decide_eq_false e]; exact e2, rr⟩
theorem any_keys (k : κ) : ∀ {kvs : List (κ × V)} {kds : List (κ × D)}, kvs.map (·.1) = kds.map (·.1) → (kvs.any fun kv => decide (kv.1 = k)) = kds.any fun kv => decide (kv.1 = k)
  | [], [], _ => rfl
  | [], _ :: _, h => by simp at h
  | _ :: _, [], h => by simp at h
  | (a, v) :: kvs, (b, d) :: kds, h => by
    have h1 : a = b := by simpa using (List.cons.inj h).1
    rw [List.any_cons, List.any_cons, any_keys k (List.cons.inj h).2, h1]
theorem put_map_keys (k : κ) (v : V) (d : D) {G : Hp} (rv : Rep G v d) : ∀ {kvs : List (κ × V)} {kds : List (κ × D)}, kvs.map (·.1) = kds.map (·.1) → Reps G (kvs.map (·.2)) (kds.map (·.2)) →
    (kvs.map (fun kv => if kv.1 = k then (kv.1, v) else kv)).map (·.1) = (kds.map (fun kv => if kv.1 = k then (kv.1, d) else kv)).map (·.1) ∧
    Reps G ((kvs.map (fun kv => if kv.1 = k then (kv.1, v) else kv)).map (·.2)) ((kds.map (fun kv => if kv.1 = k then (kv.1, d) else kv)).map (·.2))
  | [], [], _, _ => ⟨rfl, Reps.nil⟩
  | [], _ :: _, h, _ => by simp at h
  | _ :: _, [], h, _ => by simp at h
  | (a, w) :: kvs, (b, e) :: kds, h, r => by
    have h1 : a = b := by simpa using (List.cons.inj h).1
    subst h1
    have rh : Rep G w e := Reps.head (vs := kvs.map Prod.snd) (ds := kds.map Prod.snd) r
    have rt : Reps G (kvs.map (·.2)) (kds.map (·.2)) := Reps.tail (v := w) (d := e) r
    obtain ⟨i1, i2⟩ := put_map_keys k v d rv (List.cons.inj h).2 rt
    by_cases ek : a = k
    · simp only [List.map_cons, ek, if_true]
      exact ⟨by rw [i1], Reps.cons rv i2⟩
    · simp only [List.map_cons, ek, if_false]
      exact ⟨by rw [i1], Reps.cons rh i2⟩
theorem put_rep {G : Hp} (k : κ) {v : V} {d : D} (rv : Rep G v d) {kvs : List (κ × V)} {kds : List (κ × D)} (h : kvs.map (·.1) = kds.map (·.1)) (r : Reps G (kvs.map (·.2)) (kds.map (·.2))) :
    (putK kvs k v).map (·.1) = (putD kds k d).map (·.1) ∧ Reps G ((putK kvs k v).map (·.2)) ((putD kds k d).map (·.2)) := by
  unfold putK putD
  rw [any_keys k h]
  split
  · exact put_map_keys k v d rv h r
  · rw [List.map_append, List.map_append, List.map_append, List.map_append, h]
    exact ⟨rfl, r.append (Reps.cons rv Reps.nil)⟩
end
theorem Holds.seeK {G : Hp} {σ : L2.St} {H : Hp} (h : Holds F G Γ σ H) {d : D} {kds : List (Key × D)} {v : V} (r : Rep G v d) (s : See Γ.M Γ.R d (.dK kds)) : ∃ p kvs, v = .ref p ∧ Rd H p (.dK kvs) ∧ kvs.map (·.1) = kds.map (·.1) ∧ Reps G (kvs.map (·.2)) (kds.map (·.2)) := by
  rcases h.see r s with ⟨p, o, rfl, ho, hs⟩ | ⟨rfl, r⟩
  · obtain ⟨kvs, rfl, a, b⟩ := hs.dK_inv
    exact ⟨p, kvs, rfl, ho, a, b⟩
  · cases r
theorem Holds.seeDT {G : Hp} {σ : L2.St} {H : Hp} (h : Holds F G Γ σ H) {d : D} {kds : List (List Key × D)} {v : V} (r : Rep G v d) (s : See Γ.M Γ.R d (.dT kds)) : ∃ p kvs, v = .ref p ∧ Rd H p (.dT kvs) ∧ kvs.map (·.1) = kds.map (·.1) ∧ Reps G (kvs.map (·.2)) (kds.map (·.2)) := by
  rcases h.see r s with ⟨p, o, rfl, ho, hs⟩ | ⟨rfl, r⟩
  · obtain ⟨kvs, rfl, a, b⟩ := hs.dT_inv
    exact ⟨p, kvs, rfl, ho, a, b⟩
  · cases r
theorem wx_dget (hX : Std X) {G : Hp} {σ : L2.St} {H : Hp} {R : VK} {p : Addr} {y v : V} {pins : List (Addr × Obj)} {s : Shared} {u : Value} (I : Inv X pins σ H s) (g : DGet H p y (some v)) (ru : RelV y u) (q : R v H) (hs : subscripted eb false (.ref p) u = operate [.ref p, u] (getItem (.ref p) u)) :
    wpAny (model X.prog X.w) X.A (subscriptTail ea eb (.ref p) u) (EP X pins σ R) X.xe s :=
  tail_any (dict_typeIs I g) PySem.F.slot_dict_getitem.lookup (d_getItem hX.hu1 I g ru fun w' s3 I3 rw' => ⟨v, H, I3, rw', q⟩) hs
theorem wx_dK (hX : Std X) {d : D} {kds : List (Key × D)} {k : Key} {x : D} [sd : SeeK M R d kds] (ha : lookD kds k = some x) (q : Q x ⟨sl, M, R⟩) : WX X F ea eb d (kD k) ⟨sl, M, R⟩ Q := fun G σ H v1 v2 hh r1 r2 R hR pins s v u I rv ru hs => by
  obtain ⟨p, kvs, rfl, hS, hk, hr⟩ := hh.seeK r1 sd.see
  cases rv
  rw [r2.kD_inv] at ru
  rcases look_rep k hk hr with ⟨_, e⟩ | ⟨w, x', e1, e2, rr⟩
  · rw [ha] at e; cases e
  · rw [ha] at e2; cases e2
    exact wx_dget (G := G) hX I (.inl ⟨kvs, k, hS, rfl, e1.symm⟩) ru (hR.here hh q rr) hs
theorem wx_dT (hX : Std X) {d : D} {kds : List (List Key × D)} {k : List Key} {x : D} [sd : SeeDT M R d kds] (ha : lookD kds k = some x) (q : Q x ⟨sl, M, R⟩) : WX X F ea eb d (.tup (k.map kD)) ⟨sl, M, R⟩ Q := fun G σ H v1 v2 hh r1 r2 R hR pins s v u I rv ru hs => by
  obtain ⟨p, kvs, rfl, hS, hk, hr⟩ := hh.seeDT r1 sd.see
  cases rv
  obtain ⟨b, vs, rfl, hb, hv⟩ := r2.tup_inv
  rw [hv.kD_inv] at hb
  rcases look_rep k hk hr with ⟨_, e⟩ | ⟨w, x', e1, e2, rr⟩
  · rw [ha] at e; cases e
  · rw [ha] at e2; cases e2
    exact wx_dget (G := G) hX I (.inr ⟨kvs, k, b, hS, rfl, hh.gh _ _ hb, e1.symm⟩) ru (hR.here hh q rr) hs
theorem wo_inK (hX : Std X) {neg : Bool} {d : D} {kds : List (Key × D)} {k : Key} [sd : SeeK M R d kds] (q : Q (.bl (if neg then !(lookD kds k).isSome else (lookD kds k).isSome)) ⟨sl, M, R⟩) : WO X F (compareOp (if neg then .NotIn else .In)) (kD k) d ⟨sl, M, R⟩ Q := fun G σ H y x hh r2 r1 R hR pins s u v I ru rv => by
  obtain ⟨p, kvs, rfl, hS, hk, hr⟩ := hh.seeK r1 sd.see
  cases rv
  rw [r2.kD_inv] at ru
  have e : (valV kvs k).isSome = (lookD kds k).isSome := by
    rcases look_rep k hk hr with ⟨e1, e2⟩ | ⟨w, x', e1, e2, rr⟩ <;> rw [e1, e2] <;> rfl
  rw [← e] at q
  cases neg with
  | true => exact d_notIn hX.hu1 I (.inl ⟨kvs, k, hS, rfl, rfl⟩) ru fun s' I' => ⟨.bl _, H, I', rfl, hR.here hh q (.bl _)⟩
  | false => exact d_in hX.hu1 I (.inl ⟨kvs, k, hS, rfl, rfl⟩) ru fun s' I' => ⟨.bl _, H, I', rfl, hR.here hh q (.bl _)⟩
theorem wo_inDT (hX : Std X) {neg : Bool} {d : D} {kds : List (List Key × D)} {k : List Key} [sd : SeeDT M R d kds] (q : Q (.bl (if neg then !(lookD kds k).isSome else (lookD kds k).isSome)) ⟨sl, M, R⟩) : WO X F (compareOp (if neg then .NotIn else .In)) (.tup (k.map kD)) d ⟨sl, M, R⟩ Q := fun G σ H y x hh r2 r1 R hR pins s u v I ru rv => by
  obtain ⟨p, kvs, rfl, hS, hk, hr⟩ := hh.seeDT r1 sd.see
  cases rv
  obtain ⟨b, vs, rfl, hb, hv⟩ := r2.tup_inv
  rw [hv.kD_inv] at hb
  have e : (valV kvs k).isSome = (lookD kds k).isSome := by
    rcases look_rep k hk hr with ⟨e1, e2⟩ | ⟨w, x', e1, e2, rr⟩ <;> rw [e1, e2] <;> rfl
  rw [← e] at q
  cases neg with
  | true => exact d_notIn hX.hu1 I (.inr ⟨kvs, k, b, hS, rfl, hh.gh _ _ hb, rfl⟩) ru fun s' I' => ⟨.bl _, H, I', rfl, hR.here hh q (.bl _)⟩
  | false => exact d_in hX.hu1 I (.inr ⟨kvs, k, b, hS, rfl, hh.gh _ _ hb, rfl⟩) ru fun s' I' => ⟨.bl _, H, I', rfl, hR.here hh q (.bl _)⟩
theorem we_newK {pos : Pos} (q : ∀ p, Q (.ref p) ⟨Γ.sl, (p, .dK []) :: Γ.M, Γ.R⟩) : WE X F (.Dict [] [] pos) Γ Q := fun G σ H hh R hR => tU_of pe_dnewK fun p hp => hR _ _ G _ _ (q p) (Same.refl G) (hh.newOwn hp (.dK rfl Reps.nil)) (.ref p)
theorem we_newT {pos : Pos} (q : ∀ p, Q (.ref p) ⟨Γ.sl, (p, .dT []) :: Γ.M, Γ.R⟩) : WE X F (.Dict [] [] pos) Γ Q := fun G σ H hh R hR => tU_of pe_dnewT fun p hp => hR _ _ G _ _ (q p) (Same.refl G) (hh.newOwn hp (.dT rfl Reps.nil)) (.ref p)

/-! ### stores by subscript -/
/-- o[i] = v -/
def WSet (X : Cx) (F : Fr) (o i v : D) (Γ : DL.Env) (Q : DL.Env → Prop) : Prop := ∀ G σ H xo xi xv, Holds F G Γ σ H → Rep G xo o → Rep G xi i → Rep G xv v → ∀ R : Hp → Prop, (∀ Γ' G' H', Q Γ' → Same G G' → Holds F G' Γ' σ H' → R H') →
  ∀ (pins : List (Addr × Obj)) (s : Shared) (ov iv u : Value), Inv X pins σ H s → RelV xo ov → RelV xi iv → RelV xv u → wpAny (model X.prog X.w) X.A (setItem ov iv u) (fun _ s' => ∃ H', Inv X pins σ H' s' ∧ R H') X.xe s
/-- the store of a value that was reckoned before: it is frozen ahead -/
theorem ws_sub {o i e : Expr} {pos pos' : Pos} {O : Out} (hs : swapsWith e (some (.Subscript o i pos')) pos.line X.env = pure false)
    (h : WE X F e Γ fun v Γ1 => Fz F v Γ1 fun v Γ1 => WE X F o Γ1 fun od Γ2 => WE X F i Γ2 fun id Γ3 => WSet X F od id v Γ3 O.nx) : WS X F (.Assign [.Subscript o i pos'] e pos) Γ O := fun G σ H hh E hE pins s I => by
  have hq : tU X e σ H fun xv H1 => tU X o σ H1 fun xo H2 => tU X i σ H2 fun xi H3 => ∀ (pins : List (Addr × Obj)) (s : Shared) (ov iv u : Value), Inv X pins σ H3 s → RelV xo ov → RelV xi iv → RelV xv u → wpAny (model X.prog X.w) X.A (setItem ov iv u) (fun _ s' => ∃ H', Inv X pins σ H' s' ∧ E.nx σ H') X.xe s := by
    refine we_fz h G σ H hh _ fun v Γ1 G1 xv H1 q s1 h1 rv => ?_
    refine q G1 σ H1 h1 _ fun od Γ2 G2 xo H2 q2 s2 h2 ro => ?_
    refine q2 G2 σ H2 h2 _ fun id Γ3 G3 xi H3 q3 s3 h3 ri => ?_
    exact q3 G3 σ H3 xo xi xv h3 (ro.mono s3) ri (rv.mono (s2.trans s3)) _ fun Γ' G' H' qq sg hh' => hE.nx Γ' G' σ H' qq (((s1.trans s2).trans s3).trans sg) hh'
  refine wpAny_Assign_Subscript (thn (hq pins s I) fun r s1 ⟨v, H1, I1, rv, q1⟩ => thn (q1 pins s1 I1) fun u s2 ⟨x, H2, I2, rx, q2⟩ => thn (q2 pins s2 I2) fun iv s3 ⟨y, H3, I3, ry, q3⟩ => ?_) hs
  exact thn (q3 pins s3 u iv r I3 rx ry rv) fun _ s4 ⟨H4, I4, q4⟩ => ⟨σ, H4, I4, q4⟩
theorem wset_list {p : Addr} {ds : List D} {k j : Nat} {i : Int} {v : D} {QG : DL.Env → Prop} [h : At M p (.lst ds) k] [h2 : SetM M k (p, .lst (ds.set j v)) M'] (hi : ixN ds.length i = some j) (q : QG ⟨sl, M', R⟩) : WSet X F (.ref p) (.int i) v ⟨sl, M, R⟩ QG :=
  fun G σ H xo xi xv hh ro ri rv K hK pins s ov iv u I rvo rvi rvv => by
    obtain ⟨_, _, o, ho, hs⟩ := hh.mem.at_ _ (List.mem_of_getElem? h.e)
    obtain ⟨vs, rfl, hr⟩ := hs.lst_inv
    rw [ro.ref_inv] at rvo
    rw [ri.int_inv] at rvi
    refine set_list pins s σ H (.ref p) (.int i) xv ov iv u K I rvo rvi rvv ⟨p, vs, i, j, rfl, rfl, ho, by rw [hr.1]; exact hi, ?_⟩
    have hw := hh.write h.e (o' := .lst (vs.set j xv)) (.lst (hr.set rv j))
    rw [← h2.e] at hw
    exact hK _ G _ q (Same.refl G) hw
theorem wset_dK (hX : Std X) {p : Addr} {kds : List (Key × D)} {m : Nat} {k : Key} {v : D} {QG : DL.Env → Prop} [h : At M p (.dK kds) m] [h2 : SetM M m (p, .dK (putD kds k v)) M'] (hl : kds.length < sizeLine) (q : QG ⟨sl, M', R⟩) : WSet X F (.ref p) (kD k) v ⟨sl, M, R⟩ QG :=
  fun G σ H xo xi xv hh ro ri rv K hK pins s ov iv u I rvo rvi rvv => by
    obtain ⟨_, _, o, ho, hs⟩ := hh.mem.at_ _ (List.mem_of_getElem? h.e)
    obtain ⟨kvs, rfl, hk, hr⟩ := hs.dK_inv
    rw [ro.ref_inv] at rvo
    rw [ri.kD_inv] at rvi
    cases rvo
    have hlen : kvs.length = kds.length := by have := congrArg List.length hk; simpa using this
    refine d_setItem hX.hu1 I (.inl ⟨kvs, k, ho, rfl, by rw [hlen]; exact hl, rfl⟩) rvi rvv fun s' I' => ⟨_, I', ?_⟩
    obtain ⟨a, b⟩ := put_rep k rv hk hr
    have hw := hh.write h.e (o' := .dK (putK kvs k xv)) (.dK a b)
    rw [← h2.e] at hw
    exact hK _ G _ q (Same.refl G) hw
theorem wset_dT (hX : Std X) {p : Addr} {kds : List (List Key × D)} {m : Nat} {k : List Key} {v : D} {QG : DL.Env → Prop} [h : At M p (.dT kds) m] [h2 : SetM M m (p, .dT (putD kds k v)) M'] (hl : kds.length < sizeLine) (q : QG ⟨sl, M', R⟩) : WSet X F (.ref p) (.tup (k.map kD)) v ⟨sl, M, R⟩ QG :=
  fun G σ H xo xi xv hh ro ri rv K hK pins s ov iv u I rvo rvi rvv => by
    obtain ⟨_, _, o, ho, hs⟩ := hh.mem.at_ _ (List.mem_of_getElem? h.e)
    obtain ⟨kvs, rfl, hk, hr⟩ := hs.dT_inv
    rw [ro.ref_inv] at rvo
    cases rvo
    obtain ⟨b, vs, rfl, hb, hv⟩ := ri.tup_inv
    rw [hv.kD_inv] at hb
    have hlen : kvs.length = kds.length := by have := congrArg List.length hk; simpa using this
    refine d_setItem hX.hu1 I (.inr ⟨kvs, k, b, ho, rfl, hh.gh _ _ hb, by rw [hlen]; exact hl, rfl⟩) rvi rvv fun s' I' => ⟨_, I', ?_⟩
    obtain ⟨a, b⟩ := put_rep k rv hk hr
    have hw := hh.write h.e (o' := .dT (putK kvs k xv)) (.dT a b)
    rw [← h2.e] at hw
    exact hK _ G _ q (Same.refl G) hw
end
end DL

/-! The D layer, part 5: defs and their calls; operations on ints, texts, lists. -/
namespace DL
open PySem PySem.Spec PyProof.Rows L2

/-! ### a def's promise over plain data -/
abbrev SpD := List D → Mem → Mem → (D → Mem → Prop) → Prop
def SpOf (S : SpD) : Sp := fun vs H Q _ => ∃ (ds : List D) (M R : Mem) (B G : Hp) (P : D → Mem → Prop), Reps G vs ds ∧ Same G B ∧ Same B H ∧ MemOk B G H M ∧ (∀ q ∈ R, ∃ o, Rd B q.1 o ∧ Shell G o q.2) ∧ S ds M R P ∧
  ∀ d M' G' v H', P d M' → Same G G' → Same G' H' → Same B H' → (∀ p o, G' p = some o → G p = some o ∨ B p = none ∨ ∃ vs, o = .tup vs) → MemOk B G' H' M' → Rep G' v d → Q v H'
/-- what a body is asked -/
def startD (n : Nat) (ds : List D) : List (Option D) := ds.map some ++ List.replicate (n - ds.length) none
def Sub (M' M : Mem) : Prop := ∀ q ∈ M', q ∈ M
def outD (P : D → Mem → Prop) : Out := { nx := fun Γ => ∃ M', (M'.map (·.1)).Nodup ∧ Sub M' Γ.M ∧ P .non M', rt := fun d Γ => ∃ M', (M'.map (·.1)).Nodup ∧ Sub M' Γ.M ∧ P d M' }

structure In (X : Cx) (P : Program) (w : World) (K : PySem.W.Frag) (mg : Str → Option Value) (base : Heap) (k : Nat) : Prop where
  prog : X.prog = P
  w : X.w = w
  K : X.K = K
  mg : X.mg = mg
  base : X.base = base
  room : Room k X.A
  calm : X.calm = true
  nd : X.N.Nodup
  nox : X.xe = fun _ _ => False
theorem In.std {X : Cx} {P : Program} {w : World} {K : PySem.W.Frag} {mg : Str → Option Value} {base : Heap} {k : Nat} (h : In X P w K mg base k) : Std X :=
  ⟨h.calm, h.nd, by rw [h.nox]; exact PassesOwn.never, h.room.units⟩
theorem In.mono {X : Cx} {P : Program} {w : World} {K : PySem.W.Frag} {mg : Str → Option Value} {base : Heap} {j k : Nat} (h : In X P w K mg base k) (hj : j ≤ k) : In X P w K mg base j :=
  ⟨h.prog, h.w, h.K, h.mg, h.base, h.room.mono hj, h.calm, h.nd, h.nox⟩
/-- the names of a def's context -/
structure Nm (X : Cx) (N : List Str) (sc : Scope) : Prop where
  N : X.N = N
  sc : X.env.scope = sc
  fn : X.fn = fun _ => true

section
variable {P : Program} {w : World} {K : PySem.W.Frag} {mg : Str → Option Value} {base : Heap}
theorem start_reps {G : Hp} {N : List Str} {vs : List V} {ds : List D} (r : Reps G vs ds) : (L2.start N vs).length = (startD N.length ds).length ∧ ∀ (i : Nat) (d : D), (startD N.length ds)[i]? = some (some d) → ∃ v, (L2.start N vs)[i]? = some (some v) ∧ Rep G v d := by
  unfold L2.start startD
  refine ⟨by simp [r.1], fun i d h => ?_⟩
  by_cases hi : i < ds.length
  · rw [List.getElem?_append_left (by simpa using hi), List.getElem?_map] at h
    rw [List.getElem?_append_left (by rw [List.length_map, r.1]; exact hi), List.getElem?_map]
    obtain ⟨x, e, e2⟩ := Option.map_eq_some_iff.mp h
    cases e2
    obtain ⟨v, hv, rv⟩ := r.get e
    exact ⟨v, by rw [hv]; rfl, rv⟩
  · rw [List.getElem?_append_right (by simpa using Nat.le_of_not_lt hi)] at h
    rw [List.getElem?_replicate] at h
    split at h <;> cases h
/-- THE RULE for a def -/
theorem fnD {x qual : Str} {st : Stmt} {f : Addr} {fd : FuncData} {N ps : List Str} {k : Nat} {S : SpD} (Fu : Fun K x qual st f fd) (Sc : FnScope N ps (defScope st)) (len : ∀ ds M R Q, S ds M R Q → ds.length = ps.length)
    (hbody : ∀ (X : Cx) (F : Fr), In X P w K mg base k → Nm X N (defScope st) → ∀ ds M R Q, S ds M R Q → WSs X F (defBody st) ⟨startD N.length ds, M, R⟩ (outD Q)) : FnOk P w K mg base CX0 (k + 1) f fd ps (SpOf S) := by
  refine Fu.ok Sc (fun vs H Q E h => ?_) (fun cdv A outer s H vs Q E hr h => ?_)
  · obtain ⟨ds, M, R, B, G, Pq, r, _, _, _, _, hS, _⟩ := h
    rw [r.1]; exact len _ _ _ _ hS
  · obtain ⟨ds, M, R, B, G, Pq, r, gb, bh, mk, rk, hS, q⟩ := h
    refine ⟨tUSs _ (defBody st), pss_U, ?_⟩
    have hin : In (cxOf CX0 P w K mg base N qual (defScope st) f cdv A outer s H E).nox P w K mg base k := ⟨rfl, rfl, rfl, rfl, rfl, hr, rfl, Sc.nd, rfl⟩
    obtain ⟨e1, e2⟩ := start_reps (N := N) r
    refine hbody _ ⟨B, G⟩ hin ⟨rfl, rfl, rfl⟩ ds M R Pq hS G (L2.start N vs) H ⟨Same.refl _, gb.trans bh, bh, gb, fun p o e => .inl e, e1, e2, mk, rk⟩ _ ⟨?_, ?_, ?_, ?_⟩
    · intro Γ' G' σ' H' ⟨M', nd, sb, hp⟩ sg hh
      exact q .non M' G' .non H' hp sg hh.gh hh.bh hh.nw ⟨nd, fun z hz => hh.mem.at_ z (sb z hz)⟩ .non
    · intro d Γ' G' σ' v H' ⟨M', nd, sb, hp⟩ sg hh rv
      exact q d M' G' v H' hp sg hh.gh hh.bh hh.nw ⟨nd, fun z hz => hh.mem.at_ z (sb z hz)⟩ rv
    · exact fun _ _ _ _ z => z.elim
    · exact fun _ _ _ _ z => z.elim
/-- what a caller knows of a def -/
structure Cal (P : Program) (w : World) (K : PySem.W.Frag) (mg : Str → Option Value) (base : Heap) (k : Nat) (x : Str) (S : SpD) : Prop where
  ex : ∃ (f : Addr) (fd : FuncData) (ps : List Str), FnOk P w K mg base CX0 k f fd ps (SpOf S) ∧ mg x = some (.ref f) ∧ PySem.W.keepIn K (.ref f) = true ∧ Binds K fd ps []
theorem Cal.imp {k : Nat} {x : Str} {S S' : SpD} (c : Cal P w K mg base k x S) (h : ∀ ds M R Q, S' ds M R Q → S ds M R Q) : Cal P w K mg base k x S' := by
  obtain ⟨f, fd, ps, a, b, c, d⟩ := c.ex
  exact ⟨f, fd, ps, a.imp fun vs H Q E ⟨ds, M, R, B, G, Pq, r, gb, bh, mo, rk, hS, q⟩ => ⟨ds, M, R, B, G, Pq, r, gb, bh, mo, rk, h _ _ _ _ hS, q⟩, b, c, d⟩

variable {X : Cx} {F : Fr} {Γ : DL.Env} {Q : D → DL.Env → Prop} {sl sl' : List (Option D)} {M M' R : Mem}
/-- the heap without the places that are handed over -/
def lessM (H : Hp) (M0 : Mem) : Hp := fun p => if p ∈ M0.map (·.1) then none else H p
theorem lessM_same {H : Hp} {M0 : Mem} : Same (lessM H M0) H := fun p o e => by
  unfold lessM at e
  split at e
  · cases e
  · exact e
/-- the call by values: M0 is handed over, the rest is only read -/
theorem call_sem {S : SpD} {G : Hp} {σ : L2.St} {H : Hp} {vs : List V} {ds : List D} (hh : Holds F G Γ σ H) (r : Reps G vs ds) {M0 rest : Mem} (hp : Γ.M.Perm (M0 ++ rest)) {Pq : D → Mem → Prop} (hS : S ds M0 (rest ++ Γ.R) Pq) (K' : VK) (E : XK)
    (hK : ∀ d M' G' v H', Pq d M' → Same G G' → Holds F G' ⟨Γ.sl, M' ++ rest, Γ.R⟩ σ H' → Rep G' v d → K' v H') : SpOf S vs H K' E := by
  have nd : ((M0 ++ rest).map (·.1)).Nodup := (hp.map _).nodup_iff.mp hh.mem.nd
  rw [List.map_append, List.nodup_append] at nd
  obtain ⟨nd1, nd2, dis⟩ := nd
  have at1 : ∀ q ∈ M0, q ∈ Γ.M := fun q hq => hp.symm.subset (List.mem_append_left _ hq)
  have at2 : ∀ q ∈ rest, q ∈ Γ.M := fun q hq => hp.symm.subset (List.mem_append_right _ hq)
  have notin : ∀ p o, F.B p = some o → p ∉ M0.map (·.1) := fun p o e hm => by
    obtain ⟨q, hq, rfl⟩ := List.mem_map.mp hm
    rw [(hh.mem.at_ q (at1 q hq)).1] at e; cases e
  have notinG : ∀ p o, G p = some o → p ∉ M0.map (·.1) := fun p o e hm => by
    obtain ⟨q, hq, rfl⟩ := List.mem_map.mp hm
    rw [(hh.mem.at_ q (at1 q hq)).2.1] at e; cases e
  refine ⟨ds, M0, rest ++ Γ.R, lessM H M0, G, Pq, r, fun p o e => ?_, lessM_same, ⟨nd1, fun q hq => ?_⟩, fun q hq => ?_, hS, ?_⟩
  · unfold lessM
    rw [if_neg (notinG p o e)]
    exact hh.gh _ _ e
  · obtain ⟨a, b, o, c, d⟩ := hh.mem.at_ q (at1 q hq)
    refine ⟨?_, b, o, c, d⟩
    unfold lessM
    rw [if_pos (List.mem_map_of_mem hq)]
  · rcases List.mem_append.mp hq with hq | hq
    · obtain ⟨a, b, o, c, d⟩ := hh.mem.at_ q (at2 q hq)
      refine ⟨o, .inl ?_, d⟩
      unfold lessM
      rw [if_neg fun hm => dis _ hm _ (List.mem_map_of_mem hq) rfl]
      exact c
    · obtain ⟨o, c, d⟩ := hh.rd q hq
      refine ⟨o, ?_, d⟩
      rcases c with c | ⟨z, c⟩
      · refine .inl ?_
        unfold lessM
        rw [if_neg (notin _ _ c)]
        exact hh.bh _ _ c
      · refine .inr ⟨z, ?_⟩
        unfold lessM
        rw [if_neg (notin _ _ c)]
        exact hh.bh _ _ c
  · intro d M' G' v H' hP sg gh' bh' nw' mk' rv
    have bB : Same F.B (lessM H M0) := fun p o e => by
      unfold lessM
      rw [if_neg (notin _ _ e)]
      exact hh.bh _ _ e
    refine hK d M' G' v H' hP sg ⟨hh.g0.trans sg, gh', bB.trans bh', hh.gb, fun p o e => ?_, hh.len, fun i d e => ?_, ⟨?_, fun q hq => ?_⟩, fun q hq => ?_⟩ rv
    · rcases nw' p o e with e1 | e1 | e1
      · exact hh.nw p o e1
      · cases hB : F.B p with
        | none => exact .inr (.inl rfl)
        | some o' => rw [bB p o' hB] at e1; cases e1
      · exact .inr (.inr e1)
    · obtain ⟨v, a, b⟩ := hh.sl i d e
      exact ⟨v, a, b.mono sg⟩
    · rw [List.map_append, List.nodup_append]
      refine ⟨mk'.nd, nd2, fun a ha b hb e => ?_⟩
      subst e
      obtain ⟨q, hq, rfl⟩ := List.mem_map.mp ha
      obtain ⟨q', hq', e'⟩ := List.mem_map.mp hb
      have h1 := (mk'.at_ q hq).1
      obtain ⟨_, _, o, c, _⟩ := hh.mem.at_ q' (at2 q' hq')
      have h2 : lessM H M0 q.1 = some o := by
        unfold lessM
        rw [← e', if_neg fun hm => dis _ hm _ (List.mem_map_of_mem hq') rfl]
        exact c
      rw [h1] at h2; cases h2
    · rcases List.mem_append.mp hq with hq | hq
      · obtain ⟨a, b, c⟩ := mk'.at_ q hq
        refine ⟨?_, b, c⟩
        cases hB : F.B q.1 with
        | none => rfl
        | some o' => rw [bB _ o' hB] at a; cases a
      · obtain ⟨a, b, o, c, d⟩ := hh.mem.at_ q (at2 q hq)
        have h2 : lessM H M0 q.1 = some o := by
          unfold lessM
          rw [if_neg fun hm => dis _ hm _ (List.mem_map_of_mem hq) rfl]
          exact c
        refine ⟨a, ?_, o, bh' _ _ h2, d.mono sg⟩
        cases hG : G' q.1 with
        | none => rfl
        | some o' =>
          rcases nw' _ _ hG with e1 | e1 | ⟨vs, e1⟩
          · rw [b] at e1; cases e1
          · rw [h2] at e1; cases e1
          · have e2 := gh' _ _ hG
            rw [bh' _ _ h2, e1] at e2
            cases e2
            exact d.notT.elim
    · obtain ⟨o, c, d⟩ := hh.rd q hq
      exact ⟨o, c, d.mono sg⟩
theorem Holds.perm {G : Hp} {σ : L2.St} {H : Hp} {M2 : Mem} (hh : Holds F G ⟨sl, M, R⟩ σ H) (hp : M2.Perm M) : Holds F G ⟨sl, M2, R⟩ σ H :=
  ⟨hh.g0, hh.gh, hh.bh, hh.gb, hh.nw, hh.len, hh.sl, ⟨(hp.map _).nodup_iff.mpr hh.mem.nd, fun q hq => hh.mem.at_ q (hp.subset hq)⟩, hh.rd⟩
class AppM (A B : Mem) (C : outParam Mem) : Prop where
  e : C = A ++ B
instance AppM.nil {B : Mem} : AppM [] B B := ⟨rfl⟩
instance AppM.cons {A B C : Mem} {q : Addr × D} [h : AppM A B C] : AppM (q :: A) B (q :: C) := ⟨by rw [h.e]; rfl⟩
def App (A B : Mem) (f : Mem → Prop) : Prop := f (A ++ B)
theorem app_go {A B C : Mem} {f : Mem → Prop} [h : AppM A B C] (q : f C) : App A B f := by
  show f (A ++ B)
  rw [← h.e]; exact q
def MSet (M : Mem) (k : Nat) (q : Addr × D) (f : Mem → Prop) : Prop := f (M.set k q)
theorem mset_go {M M' : Mem} {k : Nat} {q : Addr × D} {f : Mem → Prop} [h : SetM M k q M'] (r : f M') : MSet M k q f := by
  show f (M.set k q)
  rw [← h.e]; exact r
/-- a call that is handed nothing of ours -/
def Own0 (S : SpD) (ds : List D) (Γ : DL.Env) (Q : D → DL.Env → Prop) : Prop := S ds [] (Γ.M ++ Γ.R) fun d M' => App M' Γ.M fun M2 => Q d ⟨Γ.sl, M2, Γ.R⟩
theorem own0_go {S : SpD} {ds : List D} {MR : Mem} [h : AppM M R MR] (q : S ds [] MR fun d M' => App M' M fun M2 => Q d ⟨sl, M2, R⟩) : Own0 S ds ⟨sl, M, R⟩ Q := by
  show S ds [] (M ++ R) _
  rw [← h.e]; exact q
/-- one that is handed the place of its first argument -/
def Own1 (S : SpD) (ds : List D) (Γ : DL.Env) (Q : D → DL.Env → Prop) : Prop := ∃ (a : Addr) (c : D) (m : Nat), Γ.M[m]? = some (a, c) ∧ S ds [(a, c)] (Γ.M.eraseIdx m ++ Γ.R) fun d M' => ∃ c' new, M' = (a, c') :: new ∧ MSet Γ.M m (a, c') fun M2 => App new M2 fun M3 => Q d ⟨Γ.sl, M3, Γ.R⟩
theorem own1_go {S : SpD} {a : Addr} {c : D} {m : Nat} {ds : List D} {M1 MR : Mem} [h1 : At M a c m] [h2 : DelM M m M1] [h3 : AppM M1 R MR] (q : S (.ref a :: ds) [(a, c)] MR fun d M' => ∃ c' new, M' = (a, c') :: new ∧ MSet M m (a, c') fun M2 => App new M2 fun M3 => Q d ⟨sl, M3, R⟩) : Own1 S (.ref a :: ds) ⟨sl, M, R⟩ Q := by
  refine ⟨a, c, m, h1.e, ?_⟩
  show S _ _ (M.eraseIdx m ++ R) _
  rw [← h2.e, ← h3.e]; exact q
/-- f(..): nothing of ours is handed over -/
theorem we_call {k j : Nat} {S : SpD} {x : Str} {p pos : Pos} {e : Expr} {es : List Expr} (c : Cal P w K mg base k x S) (hX : In X P w K mg base j) (hj : k ≤ j) (hg : Gl X x) (hdb : (x == ("__debug__" : Str)) = false) (he : starEach (e :: es) X.env = (false, eval e X.env) :: starEach es X.env)
    (hpl : (backTo pos (starEach es X.env)).any (·.1) = false) (h : WA X F (e :: es) Γ fun ds Γ1 => Own0 S ds Γ1 Q) : WE X F (.Call (.Name x p) (e :: es) [] pos) Γ Q := fun G σ H hh R hR => by
  obtain ⟨f, fd, ps, Fn, hm, hk, hb⟩ := c.ex
  obtain ⟨rfl, rfl, rfl, rfl, rfl, room, calm, nd, nox⟩ := hX
  refine tU_of (pe_call Fn (room.mono hj) hg hm hk hb .nil (E := fun _ _ _ => False) pass0 pa_U hdb he hpl) ?_
  refine h G σ H hh _ fun ds Γ1 G1 vs H1 q s1 h1 r1 => ?_
  rw [List.append_nil]
  exact call_sem (M0 := []) h1 r1 (List.Perm.refl _) q _ _ fun d M' G' v H' hq sg h' rv => hR d _ G' v H' hq (s1.trans sg) h' rv
/-- f(..): the place p, which holds c, is handed over and comes back -/
class Take (M : Mem) (k : Nat) (q : Addr × D) (rest : outParam Mem) : Prop where
  perm : M.Perm (q :: rest)
instance Take.tail {M M' : Mem} {q r : Addr × D} {k : Nat} [h : Take M k q M'] : Take (r :: M) (k + 1) q (r :: M') := ⟨(h.perm.cons r).trans (List.Perm.swap _ _ _)⟩
instance Take.head {M : Mem} {q : Addr × D} : Take (q :: M) 0 q M := ⟨List.Perm.refl _⟩
theorem we_call1 {k j : Nat} {S : SpD} {x : Str} {p pos : Pos} {e : Expr} {es : List Expr} (c : Cal P w K mg base k x S) (hX : In X P w K mg base j) (hj : k ≤ j) (hg : Gl X x) (hdb : (x == ("__debug__" : Str)) = false) (he : starEach (e :: es) X.env = (false, eval e X.env) :: starEach es X.env)
    (hpl : (backTo pos (starEach es X.env)).any (·.1) = false) (h : WA X F (e :: es) Γ fun ds Γ1 => Own1 S ds Γ1 Q) :
    WE X F (.Call (.Name x p) (e :: es) [] pos) Γ Q := fun G σ H hh R hR => by
  obtain ⟨f, fd, ps, Fn, hm, hk, hb⟩ := c.ex
  obtain ⟨rfl, rfl, rfl, rfl, rfl, room, calm, nd, nox⟩ := hX
  refine tU_of (pe_call Fn (room.mono hj) hg hm hk hb .nil (E := fun _ _ _ => False) pass0 pa_U hdb he hpl) ?_
  refine h G σ H hh _ fun ds Γ1 G1 vs H1 q s1 h1 r1 => ?_
  obtain ⟨a, c, m, hm', q⟩ := q
  rw [List.append_nil]
  have pm : ∀ {M : Mem} {m : Nat} {a : Addr} {c c' : D}, M[m]? = some (a, c) → (M.set m (a, c')).Perm ((a, c') :: M.eraseIdx m) := by
    intro M
    induction M with
    | nil => intro m a c c' h; simp at h
    | cons z M ih =>
      intro m a c c' h
      cases m with
      | zero => exact List.Perm.refl _
      | succ m => exact ((ih (by simpa using h)).cons z).trans (List.Perm.swap _ _ _)
  have ps : Γ1.M.Perm ((a, c) :: Γ1.M.eraseIdx m) := by
    have := pm (c' := c) hm'
    have e : Γ1.M.set m (a, c) = Γ1.M := by
      apply List.ext_getElem?
      intro i
      by_cases hi : m = i
      · subst hi
        rw [List.getElem?_set]
        simp only [if_pos]
        rw [if_pos (List.getElem?_eq_some_iff.mp hm').1, hm']
      · rw [List.getElem?_set_ne hi]
    rw [e] at this; exact this
  refine call_sem (M0 := [(a, c)]) h1 r1 ps q _ _ fun d M' G' v H' hq sg h' rv => ?_
  obtain ⟨c', new, rfl, hq⟩ := hq
  refine hR d _ G' v H' hq (s1.trans sg) (h'.perm ?_) rv
  refine (List.Perm.append_left new (pm hm')).trans ?_
  exact List.perm_middle
end
end DL

/-! The D layer, part 6: operations by values, built-ins, methods, slices. -/
namespace DL
open PySem PySem.Spec PyProof.Rows L2

section
variable {X : Cx} {F : Fr} {Γ : DL.Env} {Q : D → DL.Env → Prop} {sl sl' : List (Option D)} {M M' R : Mem}

theorem wo_of {f : Value → Value → Sem Value} {r : R2} {d1 d2 : D} (h : OpR X f r) (q : ∀ G σ H x y, Holds F G Γ σ H → Rep G x d1 → Rep G y d2 → ∀ R, Good F Q G σ R → r x y H R) : WO X F f d1 d2 Γ Q :=
  fun G σ H x y hh r1 r2 R hR pins s v u I rx ry => h pins s σ H x y v u R I rx ry (q G σ H x y hh r1 r2 R hR)
theorem wo_I0 {f : Value → Value → Sem Value} {g : Int → Int → V} {i j : Int} {d : D} (h : OpR X f (rI0 g)) (rd : ∀ G, Rep G (g i j) d) (q : Q d Γ) : WO X F f (.int i) (.int j) Γ Q :=
  wo_of h fun G σ H x y hh r1 r2 R hR => ⟨i, j, r1.int_inv, r2.int_inv, hR.here hh q (rd G)⟩
theorem wo_I {f : Value → Value → Sem Value} {C : Int → Int → Prop} {g : Int → Int → V} {i j : Int} {d : D} (h : OpR X f (rI C g)) (hc : C i j) (rd : ∀ G, Rep G (g i j) d) (q : Q d Γ) : WO X F f (.int i) (.int j) Γ Q :=
  wo_of h fun G σ H x y hh r1 r2 R hR => ⟨i, j, r1.int_inv, r2.int_inv, hc, hR.here hh q (rd G)⟩
variable {i j : Int}
theorem wo_add (q : Q (.int (i + j)) Γ) : WO X F (binaryOp .Add) (.int i) (.int j) Γ Q := wo_I0 op_add (fun _ => .int _) q
theorem wo_sub (q : Q (.int (i - j)) Γ) : WO X F (binaryOp .Sub) (.int i) (.int j) Γ Q := wo_I0 op_sub (fun _ => .int _) q
theorem wo_mul (hc : CMulW i j) (q : Q (.int (i * j)) Γ) : WO X F (binaryOp .Mult) (.int i) (.int j) Γ Q := wo_I op_mulW hc (fun _ => .int _) q
theorem wo_mulS (hc : CMul i j) (q : Q (.int (i * j)) Γ) : WO X F (binaryOp .Mult) (.int i) (.int j) Γ Q := wo_I op_mul hc (fun _ => .int _) q
theorem wo_fdiv (h0 : 0 < j) (h9 : j.natAbs.log2 < 9000) (q : Q (.int (i / j)) Γ) : WO X F (binaryOp .FloorDiv) (.int i) (.int j) Γ Q := wo_I op_fdivW ⟨h0, h9⟩ (fun _ => .int _) q
theorem wo_mod (h0 : 0 < j) (q : Q (.int (i % j)) Γ) : WO X F (binaryOp .Mod) (.int i) (.int j) Γ Q := wo_I op_mod h0 (fun _ => .int _) q
theorem wo_pow (hc : CPow i j) (q : Q (.int (i ^ j.toNat)) Γ) : WO X F (binaryOp .Pow) (.int i) (.int j) Γ Q := wo_I op_pow hc (fun _ => .int _) q
/-- a written power -/
class PowL (i j : Int) (r : outParam Int) : Prop where
  c : CPow i j
  e : i ^ j.toNat = r
instance : PowL 2 64 18446744073709551616 := ⟨⟨by decide, by decide, by decide⟩, by decide⟩
instance : PowL 2 29 536870912 := ⟨⟨by decide, by decide, by decide⟩, by decide⟩
instance : PowL 2 32 4294967296 := ⟨⟨by decide, by decide, by decide⟩, by decide⟩
instance : PowL 10 18 1000000000000000000 := ⟨⟨by decide, by decide, by decide⟩, by decide⟩
instance : PowL 10 30 1000000000000000000000000000000 := ⟨⟨by decide, by decide, by decide⟩, by decide⟩
instance : PowL 10 12 1000000000000 := ⟨⟨by decide, by decide, by decide⟩, by decide⟩
instance : PowL 10 9 1000000000 := ⟨⟨by decide, by decide, by decide⟩, by decide⟩
instance : PowL 10 6 1000000 := ⟨⟨by decide, by decide, by decide⟩, by decide⟩
instance : PowL 10 60 (10 ^ 60) := ⟨⟨by decide, by decide, by decide⟩, by decide⟩
theorem wo_powL {r : Int} [h : PowL i j r] (q : Q (.int r) Γ) : WO X F (binaryOp .Pow) (.int i) (.int j) Γ Q := wo_I op_pow h.c (fun _ => by rw [h.e]; exact .int _) q
theorem wo_xor (q : Q (.int (Builtin.bitXor i j)) Γ) : WO X F (binaryOp .BitXor) (.int i) (.int j) Γ Q := wo_I0 op_xor (fun _ => .int _) q
theorem wo_and (q : Q (.int (Builtin.bitAnd i j)) Γ) : WO X F (binaryOp .BitAnd) (.int i) (.int j) Γ Q := wo_I0 op_and (fun _ => .int _) q
theorem wo_or (q : Q (.int (Builtin.bitOr i j)) Γ) : WO X F (binaryOp .BitOr) (.int i) (.int j) Γ Q := wo_I0 op_or (fun _ => .int _) q
theorem wo_lt (q : Q (.bl (decide (i < j))) Γ) : WO X F (compareOp .Lt) (.int i) (.int j) Γ Q := wo_I0 op_lt (fun _ => .bl _) q
theorem wo_le (q : Q (.bl (decide (i ≤ j))) Γ) : WO X F (compareOp .LtE) (.int i) (.int j) Γ Q := wo_I0 op_le (fun _ => .bl _) q
theorem wo_gt (q : Q (.bl (decide (j < i))) Γ) : WO X F (compareOp .Gt) (.int i) (.int j) Γ Q := wo_I0 op_gt (fun _ => .bl _) q
theorem wo_ge (q : Q (.bl (decide (j ≤ i))) Γ) : WO X F (compareOp .GtE) (.int i) (.int j) Γ Q := wo_I0 op_ge (fun _ => .bl _) q
theorem wo_eqI (q : Q (.bl (decide (i = j))) Γ) : WO X F (compareOp .Eq) (.int i) (.int j) Γ Q :=
  wo_of op_eq fun G σ H x y hh r1 r2 R hR => by
    rw [r1.int_inv, r2.int_inv]
    refine ⟨rfl, ?_⟩
    have e : decide (V.int i = V.int j) = decide (i = j) := by rw [dec_int]; rfl
    rw [e]; exact hR.here hh q (.bl _)
theorem wo_neI (q : Q (.bl (!decide (i = j))) Γ) : WO X F (compareOp .NotEq) (.int i) (.int j) Γ Q :=
  wo_of op_ne fun G σ H x y hh r1 r2 R hR => by
    rw [r1.int_inv, r2.int_inv]
    refine ⟨rfl, ?_⟩
    have e : decide (V.int i = V.int j) = decide (i = j) := by rw [dec_int]; rfl
    rw [e]; exact hR.here hh q (.bl _)
variable {z w : Str}
theorem wo_eqS (q : Q (.bl (decide (z = w))) Γ) : WO X F (compareOp .Eq) (.str z) (.str w) Γ Q :=
  wo_of op_eq fun G σ H x y hh r1 r2 R hR => by
    rw [r1.str_inv, r2.str_inv]
    refine ⟨rfl, ?_⟩
    have e : decide (V.str z = V.str w) = decide (z = w) := by
      by_cases h : z = w
      · subst h; simp
      · rw [decide_eq_false h, decide_eq_false fun e => h (V.str.inj e)]
    rw [e]; exact hR.here hh q (.bl _)
theorem wo_neS (q : Q (.bl (!decide (z = w))) Γ) : WO X F (compareOp .NotEq) (.str z) (.str w) Γ Q :=
  wo_of op_ne fun G σ H x y hh r1 r2 R hR => by
    rw [r1.str_inv, r2.str_inv]
    refine ⟨rfl, ?_⟩
    have e : decide (V.str z = V.str w) = decide (z = w) := by
      by_cases h : z = w
      · subst h; simp
      · rw [decide_eq_false h, decide_eq_false fun e => h (V.str.inj e)]
    rw [e]; exact hR.here hh q (.bl _)
theorem wo_addS (hz : z.length + w.length ≤ sizeLine) (q : Q (.str (z ++ w)) Γ) : WO X F (binaryOp .Add) (.str z) (.str w) Γ Q :=
  wo_of op_add_str fun G σ H x y hh r1 r2 R hR => ⟨z, w, r1.str_inv, r2.str_inv, hz, hR.here hh q (.str _)⟩
theorem wo_ltS (q : Q (.bl (decide (z.cps.toList < w.cps.toList))) Γ) : WO X F (compareOp .Lt) (.str z) (.str w) Γ Q :=
  wo_of op_lt_str fun G σ H x y hh r1 r2 R hR => ⟨z, w, r1.str_inv, r2.str_inv, hR.here hh q (.bl _)⟩
/-- is None -/
def isNon : D → Bool
  | .non => true
  | _ => false
theorem Rep.isNon {G : Hp} {v : V} {d : D} (r : Rep G v d) : decide (v = .non) = isNon d := by cases r <;> rfl
theorem wo_isN {d : D} (q : Q (.bl (isNon d)) Γ) : WO X F (compareOp .Is) d .non Γ Q :=
  wo_of op_isN fun G σ H x y hh r1 r2 R hR => ⟨r2.non_inv, by rw [r1.isNon]; exact hR.here hh q (.bl _)⟩
theorem wo_isnotN {d : D} (q : Q (.bl (!isNon d)) Γ) : WO X F (compareOp .IsNot) d .non Γ Q :=
  wo_of op_notN fun G σ H x y hh r1 r2 R hR => ⟨r2.non_inv, by rw [r1.isNon]; exact hR.here hh q (.bl _)⟩
theorem wu_neg (q : Q (.int (-i)) Γ) : WU X F (unaryOp .USub) (.int i) Γ Q :=
  fun G σ H x hh r1 R hR pins s v I rx => un_neg pins s σ H x v R I rx ⟨i, r1.int_inv, hR.here hh q (.int _)⟩
/-- dict membership -/
theorem wo_inK' (hX : Std X) {d : D} {kds : List (Key × D)} {k : Key} [sd : SeeK M R d kds] (q : Q (.bl (lookD kds k).isSome) ⟨sl, M, R⟩) : WO X F (compareOp .In) (kD k) d ⟨sl, M, R⟩ Q := wo_inK hX (neg := false) q
theorem wo_ninK' (hX : Std X) {d : D} {kds : List (Key × D)} {k : Key} [sd : SeeK M R d kds] (q : Q (.bl (!(lookD kds k).isSome)) ⟨sl, M, R⟩) : WO X F (compareOp .NotIn) (kD k) d ⟨sl, M, R⟩ Q := wo_inK hX (neg := true) q
theorem wo_inDT' (hX : Std X) {d : D} {kds : List (List Key × D)} {k : List Key} [sd : SeeDT M R d kds] (q : Q (.bl (lookD kds k).isSome) ⟨sl, M, R⟩) : WO X F (compareOp .In) (.tup (k.map kD)) d ⟨sl, M, R⟩ Q := wo_inDT hX (neg := false) q
theorem wo_ninDT' (hX : Std X) {d : D} {kds : List (List Key × D)} {k : List Key} [sd : SeeDT M R d kds] (q : Q (.bl (!(lookD kds k).isSome)) ⟨sl, M, R⟩) : WO X F (compareOp .NotIn) (.tup (k.map kD)) d ⟨sl, M, R⟩ Q := wo_inDT hX (neg := true) q

/-! ### lists -/
/-- a list at hand, by its own place (not locked) -/
class PlL (M : Mem) (d : D) (ds : outParam (List D)) : Prop where
  h : ∀ (F : Fr) (G : Hp) (sl : List (Option D)) (R : Mem) (σ : L2.St) (H : Hp) (v : V), Holds F G ⟨sl, M, R⟩ σ H → Rep G v d → ∃ p vs, v = .ref p ∧ H p = some (.lst vs) ∧ Reps G vs ds
instance PlL.self {ds : List D} : PlL M (.lst ds) ds := ⟨fun F G sl R σ H v hh r => by
  obtain ⟨p, vs, rfl, e, rr⟩ := r.lst_inv
  exact ⟨p, vs, rfl, hh.gh _ _ e, rr⟩⟩
instance PlL.own {p : Addr} {ds : List D} {k : Nat} [h : At M p (.lst ds) k] : PlL M (.ref p) ds := ⟨fun F G sl R σ H v hh r => by
  obtain ⟨_, _, o, ho, hs⟩ := hh.mem.at_ _ (List.mem_of_getElem? h.e)
  obtain ⟨vs, rfl, hr⟩ := hs.lst_inv
  exact ⟨p, vs, r.ref_inv, ho, hr⟩⟩
theorem wo_cat {d1 d2 : D} {xs ys : List D} [h1 : PlL M d1 xs] [h2 : PlL M d2 ys] (hz : xs.length + ys.length ≤ sizeLine) (q : ∀ p, Q (.ref p) ⟨sl, (p, .lst (xs ++ ys)) :: M, R⟩) : WO X F (binaryOp .Add) d1 d2 ⟨sl, M, R⟩ Q :=
  wo_of op_cat fun G σ H x y hh r1 r2 K hK => by
    obtain ⟨p, vs, rfl, e, rr⟩ := h1.h F G sl R σ H x hh r1
    obtain ⟨p', vs', rfl, e', rr'⟩ := h2.h F G sl R σ H y hh r2
    exact ⟨p, p', vs, vs', rfl, rfl, e, e', by rw [rr.1, rr'.1]; exact hz, fun a ha => hK _ _ G _ _ (q a) (Same.refl G) (hh.newOwn ha (.lst (rr.append rr'))) (.ref a)⟩
theorem wo_catT {xs ys : List D} (hx : xs ≠ []) (hz : xs.length + ys.length ≤ sizeLine) (q : Q (.tup (xs ++ ys)) Γ) : WO X F (binaryOp .Add) (.tup xs) (.tup ys) Γ Q :=
  wo_of op_catT fun G σ H x y hh r1 r2 K hK => by
    obtain ⟨p, vs, rfl, e, rr⟩ := r1.tup_inv
    obtain ⟨p', vs', rfl, e', rr'⟩ := r2.tup_inv
    refine ⟨p, p', vs, vs', rfl, rfl, .inl (.inl (hh.gh _ _ e)), .inl (.inl (hh.gh _ _ e')), fun z => hx ?_, by rw [rr.1, rr'.1]; exact hz, fun z => ?_, fun _ a ha => ?_⟩
    · subst z; exact List.eq_nil_of_length_eq_zero rr.1.symm
    · subst z
      have : ys = [] := List.eq_nil_of_length_eq_zero rr'.1.symm
      subst this
      rw [List.append_nil] at q
      exact hK.here hh q r1
    · obtain ⟨sg, h2⟩ := hh.newSh (o := .tup (vs ++ vs')) ha
      have ra := (rr.append rr').mono sg
      exact hK _ _ _ _ _ q sg h2 (.tup upd_same ra.1 ra.2)

/-! ### calls of built-ins -/
structure BltAt (X : Cx) (x : Str) (v : Value) : Prop where
  gl : Gl X x
  mg : X.mg x = none
  bv : bootBuiltins x = some v
  hn : x ≠ "__name__"
  hdb : (x == ("__debug__" : Str)) = false
section
variable {x : Str} {p pos : Pos} {e : Expr} {es : List Expr} {id T : String}
theorem we_blt (b : BltAt X x (.builtin id)) (he : starEach (e :: es) X.env = (false, eval e X.env) :: starEach es X.env) (hpl : (backTo pos (starEach es X.env)).any (·.1) = false)
    (h : WA X F (e :: es) Γ fun ds Γ1 => WC X F (.builtin id) ds Γ1 Q) : WE X F (.Call (.Name x p) (e :: es) [] pos) Γ Q := fun G σ H hh R hR pins s I => by
  refine wpAny_Call_Name_kw (ld_blt I b.gl b.mg b.bv ?_ b.hn b.hdb)
  have ha : tUA X (e :: es) σ H fun vs H1 => ∀ (pins : List (Addr × Obj)) (s : Shared) (us : List Value), Inv X pins σ H1 s → Vals vs us → wpAny (model X.prog X.w) X.A (call (.builtin id) us) (EP X pins σ R) X.xe s :=
    h G σ H hh _ fun ds Γ1 G1 vs H1 q s1 h1 r1 => q G1 σ H1 vs h1 r1 R (hR.later s1)
  exact PyProof.Rows.callWith_builtin1 (thn (ha pos pins s I) fun us s1 ⟨vs, H1, I1, r1, q1⟩ => q1 pins s1 us I1 r1) he hpl
theorem we_typ (b : BltAt X x (.type T)) (he : starEach (e :: es) X.env = (false, eval e X.env) :: starEach es X.env) (hpl : (backTo pos (starEach es X.env)).any (·.1) = false)
    (h : WA X F (e :: es) Γ fun ds Γ1 => WC X F (.type T) ds Γ1 Q) : WE X F (.Call (.Name x p) (e :: es) [] pos) Γ Q := fun G σ H hh R hR pins s I => by
  refine wpAny_Call_Name_kw (ld_blt I b.gl b.mg b.bv ?_ b.hn b.hdb)
  have ha : tUA X (e :: es) σ H fun vs H1 => ∀ (pins : List (Addr × Obj)) (s : Shared) (us : List Value), Inv X pins σ H1 s → Vals vs us → wpAny (model X.prog X.w) X.A (call (.type T) us) (EP X pins σ R) X.xe s :=
    h G σ H hh _ fun ds Γ1 G1 vs H1 q s1 h1 r1 => q G1 σ H1 vs h1 r1 R (hR.later s1)
  exact PyProof.Rows.callWith_type1 (thn (ha pos pins s I) fun us s1 ⟨vs, H1, I1, r1, q1⟩ => q1 pins s1 us I1 r1) he hpl
/-- a type's name as a value -/
theorem we_tyName (b : BltAt X x (.type T)) (q : Q (.ty T) Γ) : WE X F (.Name x p) Γ Q := fun G σ H hh R hR =>
  tU_of (pe_bltn (v := .ty T) b.gl b.mg b.bv rfl b.hn b.hdb) (hR.here hh q (.ty T))
end
theorem wc_of {f : Value} {ds : List D} {r : List V → Hp → VK → Prop} (h : CallR X f r) (q : ∀ G σ H xs, Holds F G Γ σ H → Reps G xs ds → ∀ R, Good F Q G σ R → r xs H R) : WC X F f ds Γ Q :=
  fun G σ H xs hh rr R hR pins s us I rv => h pins s σ H xs us R I rv (q G σ H xs hh rr R hR)
theorem wc_abs (q : Q (.int (if i < 0 then -i else i)) Γ) : WC X F (.builtin "abs") [.int i] Γ Q := wc_of call_abs fun G σ H xs hh rr R hR => by
  obtain ⟨v, rfl, r⟩ := rr.one
  exact ⟨i, by rw [r.int_inv], hR.here hh q (.int _)⟩
theorem wc_int (q : Q (.int i) Γ) : WC X F (.type "int") [.int i] Γ Q := wc_of call_int1 fun G σ H xs hh rr R hR => by
  obtain ⟨v, rfl, r⟩ := rr.one
  exact .inl ⟨i, by rw [r.int_inv], hR.here hh q (.int _)⟩
theorem wc_intB {b : Bool} (q : Q (.int (if b then 1 else 0)) Γ) : WC X F (.type "int") [.bl b] Γ Q := wc_of call_int1 fun G σ H xs hh rr R hR => by
  obtain ⟨v, rfl, r⟩ := rr.one
  exact .inr ⟨b, by rw [r.bl_inv], hR.here hh q (.int _)⟩
theorem wc_strI (hi : i.natAbs.log2 < 1920) (q : Q (.str (toString i)) Γ) : WC X F (.type "str") [.int i] Γ Q := wc_of call_str_int fun G σ H xs hh rr R hR => by
  obtain ⟨v, rfl, r⟩ := rr.one
  exact ⟨i, by rw [r.int_inv], hi, hR.here hh q (.str _)⟩
theorem wc_max2 (hX : Std X) (q : Q (.int (if j > i then j else i)) Γ) : WC X F (.builtin "max") [.int i, .int j] Γ Q := wc_of (call_max2 hX.calm) fun G σ H xs hh rr R hR => by
  obtain ⟨v, u, rfl, r1, r2⟩ := rr.two
  exact ⟨i, j, by rw [r1.int_inv, r2.int_inv], hR.here hh q (.int _)⟩
theorem wc_min2 (hX : Std X) (q : Q (.int (if j < i then j else i)) Γ) : WC X F (.builtin "min") [.int i, .int j] Γ Q := wc_of (call_min2 hX.calm) fun G σ H xs hh rr R hR => by
  obtain ⟨v, u, rfl, r1, r2⟩ := rr.two
  exact ⟨i, j, by rw [r1.int_inv, r2.int_inv], hR.here hh q (.int _)⟩
theorem wc_len {d : D} {ds : List D} [sd : SeeQ M R d ds] (q : Q (.int (ds.length : Int)) ⟨sl, M, R⟩) : WC X F (.builtin "len") [d] ⟨sl, M, R⟩ Q := wc_of call_len_seq fun G σ H xs hh rr K hK => by
  obtain ⟨v, rfl, r⟩ := rr.one
  rcases sd.see with s | s
  · obtain ⟨p, vs, rfl, hS, hr⟩ := hh.seeL (K := X.K) r s
    exact ⟨p, vs, rfl, .inl hS, by rw [hr.1]; exact hK.here hh q (.int _)⟩
  · obtain ⟨p, vs, rfl, hS, hr⟩ := hh.seeT (K := X.K) r s
    exact ⟨p, vs, rfl, .inr hS, by rw [hr.1]; exact hK.here hh q (.int _)⟩
theorem wc_lenS (hz : z.length ≤ sizeLine) (q : Q (.int (z.length : Int)) Γ) : WC X F (.builtin "len") [.str z] Γ Q := wc_of call_len_str fun G σ H xs hh rr K hK => by
  obtain ⟨v, rfl, r⟩ := rr.one
  exact ⟨z, by rw [r.str_inv], hz, hK.here hh q (.int _)⟩
theorem wc_list {d : D} {ds : List D} [sd : SeeQ M R d ds] (q : ∀ p, Q (.ref p) ⟨sl, (p, .lst ds) :: M, R⟩) : WC X F (.type "list") [d] ⟨sl, M, R⟩ Q := wc_of call_list_of fun G σ H xs hh rr K hK => by
  obtain ⟨v, rfl, r⟩ := rr.one
  rcases sd.see with s | s
  · obtain ⟨p, vs, rfl, hS, hr⟩ := hh.seeL (K := X.K) r s
    exact ⟨p, vs, rfl, .inl hS, fun a ha => hK _ _ G _ _ (q a) (Same.refl G) (hh.newOwn ha (.lst hr)) (.ref a)⟩
  · obtain ⟨p, vs, rfl, hS, hr⟩ := hh.seeT (K := X.K) r s
    exact ⟨p, vs, rfl, .inr hS, fun a ha => hK _ _ G _ _ (q a) (Same.refl G) (hh.newOwn ha (.lst hr)) (.ref a)⟩
theorem wc_tuple {d : D} {ds : List D} [sd : SeeL M R d ds] (q : Q (.tup ds) ⟨sl, M, R⟩) : WC X F (.type "tuple") [d] ⟨sl, M, R⟩ Q := wc_of call_tuple_of fun G σ H xs hh rr K hK => by
  obtain ⟨v, rfl, r⟩ := rr.one
  obtain ⟨p, vs, rfl, hS, hr⟩ := hh.seeL (K := X.K) r sd.see
  refine ⟨p, vs, rfl, .inl ⟨hS, fun a ha => ?_⟩⟩
  obtain ⟨sg, h2⟩ := hh.newSh (o := .tup vs) ha
  have ra := hr.mono sg
  exact hK _ _ _ _ _ q sg h2 (.tup upd_same ra.1 ra.2)
theorem wc_tupleT {ds : List D} (q : Q (.tup ds) Γ) : WC X F (.type "tuple") [.tup ds] Γ Q := wc_of call_tupleT fun G σ H xs hh rr K hK => by
  obtain ⟨v, rfl, r⟩ := rr.one
  obtain ⟨p, vs, rfl, e, rr'⟩ := r.tup_inv
  exact ⟨p, vs, rfl, .inl (.inl (hh.gh _ _ e)), hK.here hh q r⟩
theorem reps_ints {G : Hp} : ∀ {ns : List Int} {vs : List V}, Reps G vs (ns.map D.int) → vs = ns.map V.int
  | [], vs, h => h.nil_inv
  | n :: ns, vs, h => by
    obtain ⟨v, vr, rfl, a, b⟩ := Reps.cons_inv (ds := ns.map D.int) h
    rw [a.int_inv, reps_ints b]; rfl
theorem reps_of_ints {G : Hp} : ∀ {ns : List Int}, Reps G (ns.map V.int) (ns.map D.int)
  | [] => Reps.nil
  | n :: ns => Reps.cons (.int n) reps_of_ints
theorem reps_strs {G : Hp} : ∀ {ns : List Str} {vs : List V}, Reps G vs (ns.map D.str) → vs = ns.map V.str
  | [], vs, h => h.nil_inv
  | n :: ns, vs, h => by
    obtain ⟨v, vr, rfl, a, b⟩ := Reps.cons_inv (ds := ns.map D.str) h
    rw [a.str_inv, reps_strs b]; rfl
theorem reps_bls {G : Hp} : ∀ {ns : List Bool} {vs : List V}, Reps G vs (ns.map D.bl) → vs = ns.map V.bl
  | [], vs, h => h.nil_inv
  | n :: ns, vs, h => by
    obtain ⟨v, vr, rfl, a, b⟩ := Reps.cons_inv (ds := ns.map D.bl) h
    rw [a.bl_inv, reps_bls b]; rfl
theorem wc_sum (hX : Std X) {d : D} {ns : List Int} [sd : SeeL M R d (ns.map D.int)] (q : Q (.int ns.sum) ⟨sl, M, R⟩) : WC X F (.builtin "sum") [d] ⟨sl, M, R⟩ Q := wc_of (cr_sum hX.calm) fun G σ H xs hh rr K hK => by
  obtain ⟨v, rfl, r⟩ := rr.one
  obtain ⟨p, vs, rfl, hS, hr⟩ := hh.seeL (K := X.K) r sd.see
  rw [reps_ints hr] at hS
  exact ⟨p, ns, rfl, hS, hK.here hh q (.int _)⟩
theorem wc_all (hX : Std X) {d : D} {ds : List D} (bs : List Bool) [sd : SeeL M R d ds] (e : ds = bs.map D.bl) (q : Q (.bl (bs.all id)) ⟨sl, M, R⟩) : WC X F (.builtin "all") [d] ⟨sl, M, R⟩ Q := wc_of (cr_all hX.calm) fun G σ H xs hh rr K hK => by
  obtain ⟨v, rfl, r⟩ := rr.one
  obtain ⟨p, vs, rfl, hS, hr⟩ := hh.seeL (K := X.K) r sd.see
  rw [e] at hr
  rw [reps_bls hr] at hS
  exact ⟨p, bs, rfl, hS, hK.here hh q (.bl _)⟩
theorem wc_any (hX : Std X) {d : D} {ds : List D} (bs : List Bool) [sd : SeeL M R d ds] (e : ds = bs.map D.bl) (q : Q (.bl (bs.any id)) ⟨sl, M, R⟩) : WC X F (.builtin "any") [d] ⟨sl, M, R⟩ Q := wc_of (cr_any hX.calm) fun G σ H xs hh rr K hK => by
  obtain ⟨v, rfl, r⟩ := rr.one
  obtain ⟨p, vs, rfl, hS, hr⟩ := hh.seeL (K := X.K) r sd.see
  rw [e] at hr
  rw [reps_bls hr] at hS
  exact ⟨p, bs, rfl, hS, hK.here hh q (.bl _)⟩
/-- isinstance(x, T), T a built-in type's name; the value's own type by its make -/
class TyD (M R : Mem) (d : D) (t : outParam String) : Prop where
  h : ∀ (K : PySem.W.Frag) (F : Fr) (G : Hp) (sl : List (Option D)) (σ : L2.St) (H : Hp) (v : V), Holds F G ⟨sl, M, R⟩ σ H → Rep G v d → TyX K H v (.type t)
instance TyD.non : TyD M R .non "NoneType" := ⟨fun K F G sl σ H v hh r => by rw [r.non_inv]; exact .base .non⟩
instance TyD.bl {b : Bool} : TyD M R (.bl b) "bool" := ⟨fun K F G sl σ H v hh r => by rw [r.bl_inv]; exact .base (.bl b)⟩
instance TyD.int {i : Int} : TyD M R (.int i) "int" := ⟨fun K F G sl σ H v hh r => by rw [r.int_inv]; exact .base (.int i)⟩
instance TyD.str {z : Str} : TyD M R (.str z) "str" := ⟨fun K F G sl σ H v hh r => by rw [r.str_inv]; exact .base (.str z)⟩
instance TyD.lst {d : D} {ds : List D} [sd : SeeL M R d ds] : TyD M R d "list" := ⟨fun K F G sl σ H v hh r => by
  rcases hh.see r sd.see with ⟨p, o, rfl, ho, hs⟩ | ⟨rfl, r⟩
  · obtain ⟨vs, rfl, _⟩ := hs.lst_inv
    rcases ho with ho | ⟨ob, ho⟩
    · exact .base (.lst ho)
    · exact .base (.frz ho)
  · obtain ⟨p, vs, rfl, e, _⟩ := r.lst_inv
    exact .base (.lst (hh.gh _ _ e))⟩
instance TyD.tup {d : D} {ds : List D} [sd : SeeT M R d ds] : TyD M R d "tuple" := ⟨fun K F G sl σ H v hh r => by
  rcases hh.see r sd.see with ⟨p, o, rfl, ho, hs⟩ | ⟨rfl, r⟩
  · obtain ⟨vs, rfl, _⟩ := hs.tup_inv
    rcases ho with ho | ⟨ob, ho⟩
    · exact .base (.tup ho)
    · exact .fTuple ho
  · obtain ⟨p, vs, rfl, e, _⟩ := r.tup_inv
    exact .base (.tup (hh.gh _ _ e))⟩
instance TyD.dK {d : D} {ds : List (Key × D)} [sd : SeeK M R d ds] : TyD M R d "dict" := ⟨fun K F G sl σ H v hh r => by
  obtain ⟨p, kvs, rfl, ho, _⟩ := hh.seeK r sd.see
  rcases ho with ho | ⟨ob, ho⟩
  · exact .base (.dK ho)
  · exact .fDict ho⟩
theorem wc_isi {d : D} {t T : String} {b : Bool} [h : TyD M R d t] (hb : kitB t T = some b) (q : Q (.bl b) ⟨sl, M, R⟩) : WC X F (.builtin "isinstance") [d, .ty T] ⟨sl, M, R⟩ Q := wc_of call_isi fun G σ H xs hh rr K hK => by
  obtain ⟨v, u, rfl, r1, r2⟩ := rr.two
  cases r2
  exact ⟨v, .ty T, _, _, b, rfl, .ty T, h.h X.K F G sl σ H v hh r1, kit_ty hb, hK.here hh q (.bl b)⟩

/-! ### methods of lists -/
def TyM (X : Cx) (F : Fr) (T : String) (d : D) (Γ : DL.Env) : Prop := ∀ G σ H v, Holds F G Γ σ H → Rep G v d → tyV X.K T v H
theorem tym_list {d : D} {ds : List D} [sd : SeeL M R d ds] : TyM X F "list" d ⟨sl, M, R⟩ := fun G σ H v hh r => by
  obtain ⟨p, vs, rfl, hS, _⟩ := hh.seeL (K := X.K) r sd.see
  exact .inl ⟨rfl, vs, hS⟩
theorem tym_str : TyM X F "str" (.str z) Γ := fun G σ H v hh r => by rw [r.str_inv]; rfl
theorem tym_dK {p : Addr} {kds : List (Key × D)} {k : Nat} [h : At M p (.dK kds) k] : TyM X F "dict" (.ref p) ⟨sl, M, R⟩ := fun G σ H v hh r => by
  obtain ⟨_, _, o, ho, hs⟩ := hh.mem.at_ _ (List.mem_of_getElem? h.e)
  obtain ⟨kvs, rfl, _⟩ := hs.dK_inv
  rw [r.ref_inv]
  exact .inr (.inr (.inl ⟨rfl, .inl ⟨kvs, ho⟩⟩))
/-- a method of a built-in type, by values -/
def WM (X : Cx) (F : Fr) (id : String) (o : D) (ds : List D) (Γ : DL.Env) (Q : D → DL.Env → Prop) : Prop :=
  ∀ G σ H x xs, Holds F G Γ σ H → Rep G x o → Reps G xs ds → ∀ R, Good F Q G σ R → ∀ (pins : List (Addr × Obj)) (s : Shared) (v : Value) (us : List Value), Inv X pins σ H s → RelV x v → Vals xs us → wpAny (model X.prog X.w) X.A (call (.builtin id) (v :: us)) (EP X pins σ R) X.xe s
section
variable {o e : Expr} {es : List Expr} {name : Str} {apos cpos : Pos} {T id : String}
theorem we_bm0 (pa : PlainAttrs T) (slot : Slot T name id) (hty : typeOf (.builtin id) = pure (.type "method_descriptor")) (hbase : attributeBase o name X.env (eval o X.env) = eval o X.env) (hline : (apos.endLine == cpos.line) = true)
    (h : WE X F o Γ fun d Γ1 => TyM X F T d Γ1 ∧ WM X F id d [] Γ1 Q) : WE X F (.Call (.Attribute o name apos) [] [] cpos) Γ Q := fun G σ H hh R hR pins s I => by
  have ho : tU X o σ H fun x H1 => tyV X.K T x H1 ∧ ∀ (pins : List (Addr × Obj)) (s : Shared) (v : Value) (us : List Value), Inv X pins σ H1 s → RelV x v → Vals [] us → wpAny (model X.prog X.w) X.A (call (.builtin id) (v :: us)) (EP X pins σ R) X.xe s :=
    h G σ H hh _ fun d Γ1 G1 v H1 q s1 h1 r1 => ⟨q.1 G1 σ H1 v h1 r1, q.2 G1 σ H1 v [] h1 r1 Reps.nil R (hR.later s1)⟩
  refine wpAny_Call_method0_late hbase hline (thn (ho pins s I) fun v s1 ⟨x, H1, I1, r1, ty, q1⟩ => ?_)
  obtain ⟨h1, h2⟩ := tyV_is I1 r1 ty
  exact ⟨T, id, pa, slot, hty, h1, h2, Calls.callWith_builtin rfl (PySem.evalArgs_none (q1 pins s1 v [] I1 r1 .nil))⟩
theorem we_bm (pa : PlainAttrs T) (slot : Slot T name id) (hty : typeOf (.builtin id) = pure (.type "method_descriptor")) (hbase : attributeBase o name X.env (eval o X.env) = eval o X.env)
    (hfew : ((backTo cpos (starEach (e :: es) X.env)).all (fun x => !x.1) && (backToKw cpos (keywordEach [] X.env)).all (fun x => x.1.isSome)
      && decide ((e :: es).length + ([] : List Keyword).length + (if ([] : List Keyword).isEmpty then 0 else 1) < 30)) = true)
    (hline : (apos.endLine == cpos.line) = true) (hs : starEach (e :: es) X.env = (false, eval e X.env) :: starEach es X.env) (hplain : (backTo cpos (starEach es X.env)).any (·.1) = false)
    (h : WE X F o Γ fun d Γ1 => TyM X F T d Γ1 ∧ WAV X F (e :: es) Γ1 fun ds Γ2 => WM X F id d ds Γ2 Q) : WE X F (.Call (.Attribute o name apos) (e :: es) [] cpos) Γ Q := fun G σ H hh R hR pins s I => by
  have ho : tU X o σ H fun x H1 => tyV X.K T x H1 ∧ tUA X (e :: es) σ H1 fun xs H2 => ∀ (pins : List (Addr × Obj)) (s : Shared) (v : Value) (us : List Value), Inv X pins σ H2 s → RelV x v → Vals xs us → wpAny (model X.prog X.w) X.A (call (.builtin id) (v :: us)) (EP X pins σ R) X.xe s :=
    h G σ H hh _ fun d Γ1 G1 v H1 q s1 h1 r1 => ⟨q.1 G1 σ H1 v h1 r1, q.2 G1 σ H1 h1 _ fun ds Γ2 G2 vs H2 q2 s2 h2 r2 => q2 G2 σ H2 v vs h2 (r1.mono s2) r2 R (hR.later (s1.trans s2))⟩
  refine wpAny_Call_method_late hbase hfew hline rfl (thn (ho pins s I) fun v s1 ⟨x, H1, I1, r1, ty, q1⟩ => ?_)
  obtain ⟨h1, h2⟩ := tyV_is I1 r1 ty
  refine ⟨T, id, pa, slot, hty, h1, h2, ?_⟩
  have hA := q1 cpos pins s1 I1
  rw [hs] at hA ⊢
  refine Calls.callWith_builtin (by show (false || (backTo cpos (starEach es X.env)).any (·.1)) = false; rw [hplain] <;> rfl) (Calls.evalArgs_plain ?_)
  exact thn hA fun us s2 ⟨xs, H2, I2, rs, q2⟩ => q2 pins s2 v us I2 r1 rs
end
theorem wm_of {id : String} {o : D} {ds : List D} {r : V → List V → Hp → VK → Prop} (h : MtR X id r) (q : ∀ G σ H x xs, Holds F G Γ σ H → Rep G x o → Reps G xs ds → ∀ R, Good F Q G σ R → r x xs H R) : WM X F id o ds Γ Q :=
  fun G σ H x xs hh r1 r2 R hR pins s v us I rv rs => h pins s σ H x xs v us R I rv rs (q G σ H x xs hh r1 r2 R hR)
section
variable {p : Addr} {xs : List D} {k : Nat} {v : D}
theorem wm_append [h : At M p (.lst xs) k] [h2 : SetM M k (p, .lst (xs ++ [v])) M'] (hl : xs.length < sizeLine) (q : Q .non ⟨sl, M', R⟩) : WM X F "list.append" (.ref p) [v] ⟨sl, M, R⟩ Q := wm_of mt_append fun G σ H x ys hh r1 r2 K hK => by
  obtain ⟨_, _, o, ho, hs⟩ := hh.mem.at_ _ (List.mem_of_getElem? h.e)
  obtain ⟨vs, rfl, hr⟩ := hs.lst_inv
  obtain ⟨y, rfl, ry⟩ := r2.one
  have hw := hh.write h.e (o' := .lst (vs ++ [y])) (.lst (hr.append (Reps.cons ry Reps.nil)))
  rw [← h2.e] at hw
  exact ⟨p, vs, y, r1.ref_inv, rfl, ho, by rw [hr.1]; exact hl, hK _ _ G _ _ q (Same.refl G) hw .non⟩
theorem wm_pop {x : D} [h : At M p (.lst (xs ++ [x])) k] [h2 : SetM M k (p, .lst xs) M'] (q : Q x ⟨sl, M', R⟩) : WM X F "list.pop" (.ref p) [] ⟨sl, M, R⟩ Q := wm_of mt_pop fun G σ H y ys hh r1 r2 K hK => by
  obtain ⟨_, _, o, ho, hs⟩ := hh.mem.at_ _ (List.mem_of_getElem? h.e)
  obtain ⟨vs, rfl, hr⟩ := hs.lst_inv
  have e : (xs ++ [x])[vs.length - 1]? = some x := by rw [hr.1]; simp
  obtain ⟨w, hw, rw'⟩ := hr.get e
  have hwr := hh.write h.e (o' := .lst vs.dropLast) (.lst (by have := hr.dropLast; rw [List.dropLast_concat] at this; exact this))
  rw [← h2.e] at hwr
  exact ⟨p, vs, w, r1.ref_inv, r2.nil_inv, ho, hw, hK _ _ G _ _ q (Same.refl G) hwr rw'⟩
theorem wm_extend {d : D} {ys : List D} [h : At M p (.lst xs) k] [h1 : PlL M d ys] [h2 : SetM M k (p, .lst (xs ++ ys)) M'] (hl : xs.length + ys.length ≤ sizeLine) (q : Q .non ⟨sl, M', R⟩) : WM X F "list.extend" (.ref p) [d] ⟨sl, M, R⟩ Q := wm_of mt_extend fun G σ H x zs hh r1 r2 K hK => by
  obtain ⟨_, _, o, ho, hs⟩ := hh.mem.at_ _ (List.mem_of_getElem? h.e)
  obtain ⟨vs, rfl, hr⟩ := hs.lst_inv
  obtain ⟨y, rfl, ry⟩ := r2.one
  obtain ⟨b, us, rfl, hb, rb⟩ := h1.h F G sl R σ H y hh ry
  have hw := hh.write h.e (o' := .lst (vs ++ us)) (.lst (hr.append rb))
  rw [← h2.e] at hw
  exact ⟨p, b, vs, us, r1.ref_inv, rfl, ho, hb, by rw [hr.1, rb.1]; exact hl, hK _ _ G _ _ q (Same.refl G) hw .non⟩
end

/-! ### slices -/
def WPt (X : Cx) (F : Fr) (e : Option Expr) (Γ : DL.Env) (Q : Option Int → DL.Env → Prop) : Prop := ∀ G σ H, Holds F G Γ σ H → ∀ R : Option Int → Hp → Prop, (∀ o Γ' G' H', Q o Γ' → Same G G' → Holds F G' Γ' σ H' → R o H') →
  ∀ (pins : List (Addr × Obj)) (s : Shared), Inv X pins σ H s → wpAny (model X.prog X.w) X.A (evalPart e X.env) (fun u s' => ∃ o H', Inv X pins σ H' s' ∧ IsPart u o ∧ R o H') X.xe s
theorem wpt_none {Q : Option Int → DL.Env → Prop} (q : Q none Γ) : WPt X F none Γ Q := fun G σ H hh R hR pins s I => po_none.run pins s σ H R I (hR none Γ G H q (Same.refl G) hh)
theorem wpt_some {e : Expr} {Q : Option Int → DL.Env → Prop} (h : WE X F e Γ fun d Γ1 => ∃ i, d = .int i ∧ Q (some i) Γ1) : WPt X F (some e) Γ Q := fun G σ H hh R hR pins s I =>
  (po_some pe_U).run pins s σ H R I (h G σ H hh _ fun d Γ1 G1 v H1 q s1 h1 r => by
    obtain ⟨i, rfl, q⟩ := q
    exact ⟨i, r.int_inv, hR _ Γ1 G1 H1 q s1 h1⟩)
/-- a slice by values -/
def WSl (X : Cx) (F : Fr) (d : D) (lo hi : Option Int) (Γ : DL.Env) (Q : D → DL.Env → Prop) : Prop :=
  ∀ G σ H x, Holds F G Γ σ H → Rep G x d → ∀ R, Good F Q G σ R → ∀ (pins : List (Addr × Obj)) (s : Shared) (v vl vu : Value) (sl : Addr), Inv X pins σ H s → RelV x v → s.heap.IsSliceOf sl vl vu .none → IsPart vl lo → IsPart vu hi →
    ∃ T id, typeLookup (.type T) "__getitem__" = pure (some (.builtin id)) ∧ s.TypeIs v T ∧ wpAny (model X.prog X.w) X.A (getItem v (.ref sl)) (EP X pins σ R) X.xe s
theorem we_slice {e : Expr} {lo hi : Option Expr} {pos p2 : Pos} (h : WE X F e Γ fun d Γ1 => WPt X F lo Γ1 fun l Γ2 => WPt X F hi Γ2 fun u Γ3 => WSl X F d l u Γ3 Q) : WE X F (.Subscript e (.Slice lo hi none p2) pos) Γ Q := fun G σ H hh R hR pins s I => by
  let RS : V → Option Int → Option Int → Hp → Prop := fun x l u H3 => ∀ (pins : List (Addr × Obj)) (s : Shared) (v vl vu : Value) (sl : Addr), Inv X pins σ H3 s → RelV x v → s.heap.IsSliceOf sl vl vu .none → IsPart vl l → IsPart vu u →
    ∃ T id, typeLookup (.type T) "__getitem__" = pure (some (.builtin id)) ∧ s.TypeIs v T ∧ wpAny (model X.prog X.w) X.A (getItem v (.ref sl)) (EP X pins σ R) X.xe s
  let RH : V → Option Int → Hp → Prop := fun x l H2 => ∀ (pins : List (Addr × Obj)) (s : Shared), Inv X pins σ H2 s → wpAny (model X.prog X.w) X.A (evalPart hi X.env) (fun u s' => ∃ o H', Inv X pins σ H' s' ∧ IsPart u o ∧ RS x l o H') X.xe s
  let RL : V → Hp → Prop := fun x H1 => ∀ (pins : List (Addr × Obj)) (s : Shared), Inv X pins σ H1 s → wpAny (model X.prog X.w) X.A (evalPart lo X.env) (fun u s' => ∃ o H', Inv X pins σ H' s' ∧ IsPart u o ∧ RH x o H') X.xe s
  have he : tU X e σ H RL := h G σ H hh _ fun d Γ1 G1 x H1 q s1 h1 r1 => q G1 σ H1 h1 _ fun l Γ2 G2 H2 q2 s2 h2 => q2 G2 σ H2 h2 _ fun u Γ3 G3 H3 q3 s3 h3 =>
    q3 G3 σ H3 x h3 (r1.mono (s2.trans s3)) R (hR.later ((s1.trans s2).trans s3))
  refine Subscript_ (thn (he pins s I) fun v s1 ⟨x, H1, I1, r1, q1⟩ => ?_)
  refine wpAny_Slice (thn (q1 pins s1 I1) fun vl s2 ⟨l, H2, I2, pl, q2⟩ => thn (q2 pins s2 I2) fun vu s3 ⟨u, H3, I3, pu, q3⟩ => ?_)
  rw [evalPart_none]
  refine wpAny_pure ?_
  have I4 : Inv X pins σ H3 { s3 with heap := s3.heap.push { cls := .type "slice", data := .fields #[vl, vu, .none] } } := I3.kept (t' := s3.toks) fun b ob q => Heap.get?_push_of_some _ q
  obtain ⟨T, id, hT, ht, hg⟩ := q3 pins { s3 with heap := s3.heap.push { cls := .type "slice", data := .fields #[vl, vu, .none] } } v vl vu s3.heap.objs.size I4 r1 (Heap.IsSliceOf.new ..) pl pu
  show wpAny (model X.prog X.w) X.A (subscriptTail e (.Slice lo hi none p2) v (.ref s3.heap.objs.size)) (EP X pins σ R) X.xe { s3 with heap := s3.heap.push { cls := .type "slice", data := .fields #[vl, vu, .none] } }
  exact tail_any (ops := [.ref s3.heap.objs.size, v]) ht hT hg (by with_unfolding_all rfl)
theorem wsl_of {d : D} {lo hi : Option Int} {r : V → Option Int → Option Int → Hp → VK → Prop} (h : SlR X r) (q : ∀ G σ H x, Holds F G Γ σ H → Rep G x d → ∀ R, Good F Q G σ R → r x lo hi H R) : WSl X F d lo hi Γ Q :=
  fun G σ H x hh rx R hR pins s v vl vu sl I rv hs pl pu => h pins s σ H x v vl vu lo hi sl R I rv hs pl pu (q G σ H x hh rx R hR)
def cutD {α : Type} (xs : List α) (lo hi : Option Int) : List α := (xs.drop (HT.sIx xs.length 0 lo)).take (HT.sIx xs.length xs.length hi - HT.sIx xs.length 0 lo)
theorem cut_rep {G : Hp} {vs : List V} {ds : List D} (r : Reps G vs ds) (lo hi : Option Int) : Reps G (cutV vs lo hi) (cutD ds lo hi) := by
  unfold cutV cutD
  rw [r.1]
  exact (r.drop _).take _
theorem wsl_list {d : D} {ds : List D} {lo hi : Option Int} [sd : SeeL M R d ds] (q : ∀ p, Q (.ref p) ⟨sl, (p, .lst (cutD ds lo hi)) :: M, R⟩) : WSl X F d lo hi ⟨sl, M, R⟩ Q := wsl_of sl_list fun G σ H x hh rx K hK => by
  obtain ⟨p, vs, rfl, hS, hr⟩ := hh.seeL (K := X.K) rx sd.see
  exact ⟨p, vs, rfl, hS, fun a ha => hK _ _ G _ _ (q a) (Same.refl G) (hh.newOwn ha (.lst (cut_rep hr lo hi))) (.ref a)⟩
/-- xs[::-1] by value -/
def WRev (F : Fr) (d : D) (Γ : DL.Env) (Q : D → DL.Env → Prop) : Prop := ∃ ds, See Γ.M Γ.R d (.lst ds) ∧ ∀ p, Q (.ref p) ⟨Γ.sl, (p, .lst ds.reverse) :: Γ.M, Γ.R⟩
theorem wrev_go {d : D} {ds : List D} [sd : SeeL M R d ds] (q : ∀ p, Q (.ref p) ⟨sl, (p, .lst ds.reverse) :: M, R⟩) : WRev F d ⟨sl, M, R⟩ Q := ⟨ds, sd.see, q⟩
theorem wrev_goM {α : Type} {f : α → D} {d : D} {xs : List α} [sd : SeeL M R d (xs.map f)] (q : ∀ p, Q (.ref p) ⟨sl, (p, .lst (xs.reverse.map f)) :: M, R⟩) : WRev F d ⟨sl, M, R⟩ Q := ⟨xs.map f, sd.see, by rw [← List.map_reverse]; exact q⟩
theorem we_rev {e : Expr} {k : Nat} {p1 p2 p3 pos : Pos} (h : WE X F e Γ fun d Γ1 => WRev F d Γ1 Q) :
    WE X F (.Subscript e (.Slice none none (some (.UnaryOp .USub (.Constant (.int 1) k p1) p2)) p3) pos) Γ Q := fun G σ H hh R hR =>
  tU_of (pe_revL pe_U) (h G σ H hh _ fun d Γ1 G1 v H1 q s1 h1 r => by
    obtain ⟨ds, sd, q⟩ := q
    obtain ⟨p, vs, rfl, hS, hr⟩ := h1.seeL (K := X.K) r sd
    exact ⟨p, vs, rfl, hS, fun a ha => hR _ _ G1 _ _ (q a) s1 (h1.newOwn ha (.lst hr.reverse)) (.ref a)⟩)
theorem cutD_map {α : Type} {f : α → D} {xs : List α} {lo hi : Option Int} : cutD (xs.map f) lo hi = (cutD xs lo hi).map f := by
  unfold cutD
  rw [List.length_map, List.map_take, List.map_drop]
theorem wsl_listM {α : Type} {f : α → D} {d : D} {xs : List α} {lo hi : Option Int} [sd : SeeL M R d (xs.map f)] (q : ∀ p, Q (.ref p) ⟨sl, (p, .lst ((cutD xs lo hi).map f)) :: M, R⟩) : WSl X F d lo hi ⟨sl, M, R⟩ Q := wsl_list (ds := xs.map f) (by rw [cutD_map]; exact q)
theorem wo_catM {α : Type} {f : α → D} {d1 d2 : D} {xs ys : List α} [h1 : PlL M d1 (xs.map f)] [h2 : PlL M d2 (ys.map f)] (hz : xs.length + ys.length ≤ sizeLine) (q : ∀ p, Q (.ref p) ⟨sl, (p, .lst ((xs ++ ys).map f)) :: M, R⟩) : WO X F (binaryOp .Add) d1 d2 ⟨sl, M, R⟩ Q :=
  wo_cat (xs := xs.map f) (ys := ys.map f) (by rw [List.length_map, List.length_map]; exact hz) (by rw [← List.map_append]; exact q)
end
end DL

/-! The D layer, part 7: comprehensions; data that is compared. -/
namespace DL
open PySem PySem.Spec PyProof.Rows L2

/-! ### a comprehension's block -/
def IsBlk (X X' : Cx) (scope : Scope) : Prop := ∃ (s : Shared) (H : Hp) (C : Addr) (cl : List (Str × Addr)) (fp : List Addr), X' = X.blk s H scope (compEnvC scope cl C X.env) fp
section
variable {P : Program} {w : World} {K : PySem.W.Frag} {mg : Str → Option Value} {base : Heap} {k : Nat} {X X' : Cx} {scope : Scope}
theorem IsBlk.inn (b : IsBlk X X' scope) (h : In X P w K mg base k) : In X' P w K mg base k := by
  obtain ⟨s, H, C, cl, fp, rfl⟩ := b
  exact ⟨h.prog, h.w, h.K, h.mg, h.base, h.room, h.calm, h.nd, rfl⟩
theorem relabel_look {env : PySem.Env} : ∀ {names : List (Str × NameKind)} {x : Str} {k : NameKind}, names.lookup x = some k →
    (names.map fun (n, k) => if (k == .free && env.scope.kind == .function && env.kindOf n == some .cell) then (n, .cell) else (n, k)).lookup x = some k ∨ (k = .free ∧ (names.map fun (n, k) => if (k == .free && env.scope.kind == .function && env.kindOf n == some .cell) then (n, .cell) else (n, k)).lookup x = some .cell)
  | [], _, _, h => by simp at h
  | (n, k₀) :: r, x, k, h => by
    rw [List.lookup_cons] at h
    rw [List.map_cons]
    by_cases hx : x == n
    · simp only [hx] at h
      cases h
      by_cases hc : (k₀ == .free && env.scope.kind == .function && env.kindOf n == some .cell) = true
      · have hk : k₀ = .free := by
          have h1 := (Bool.and_eq_true_iff.mp (Bool.and_eq_true_iff.mp hc).1).1
          cases k₀ <;> first | rfl | (revert h1; decide)
        refine .inr ⟨hk, ?_⟩
        simp only [hc, if_true, List.lookup_cons, hx]
      · refine .inl ?_
        simp only [hc, List.lookup_cons, hx, if_false, Bool.false_eq_true]
    · have hx' : (x == n) = false := by simpa using hx
      simp only [hx'] at h
      have ih := relabel_look (env := env) h
      have e : ∀ c : Bool, List.lookup x ((if c = true then (n, NameKind.cell) else (n, k₀)) :: r.map fun (n, k) => if (k == .free && env.scope.kind == .function && env.kindOf n == some .cell) then (n, NameKind.cell) else (n, k)) = List.lookup x (r.map fun (n, k) => if (k == .free && env.scope.kind == .function && env.kindOf n == some .cell) then (n, NameKind.cell) else (n, k)) := by
        intro c
        cases c <;> simp [List.lookup_cons, hx']
      rw [e]
      exact ih
theorem IsBlk.name (b : IsBlk X X' scope) {i : Nat} {x : Str} (hN : X.N[i]? = some x) (hl : scope.names.lookup x = some .local ∨ scope.names.lookup x = some .cell ∨ scope.names.lookup x = some .free) (d1 : (x == ("__debug__" : Str)) = false) (d2 : (x == ("__classdict__" : Str)) = false) : NameAt X' i x := by
  obtain ⟨s, H, C, cl, fp, rfl⟩ := b
  refine ⟨hN, ?_, d1, d2⟩
  rcases hl with h | h | h
  · rcases relabel_look (env := X.env) h with h | ⟨z, _⟩
    · exact .inl h
    · cases z
  · rcases relabel_look (env := X.env) h with h | ⟨z, _⟩
    · exact .inr (.inl h)
    · cases z
  · rcases relabel_look (env := X.env) h with h | ⟨z, h⟩
    · exact .inr (.inr h)
    · exact .inr (.inl h)
theorem IsBlk.store (b : IsBlk X X' scope) {i : Nat} {x : Str} (hN : X.N[i]? = some x) (hl : scope.names.lookup x = some .local ∨ scope.names.lookup x = some .cell) : StoreAt X' i x := by
  obtain ⟨s, H, C, cl, fp, rfl⟩ := b
  rcases hl with h | h
  · rcases relabel_look (env := X.env) h with h' | ⟨z, _⟩
    · exact ⟨hN, .inl h', .inr h'⟩
    · cases z
  · rcases relabel_look (env := X.env) h with h' | ⟨z, _⟩
    · exact ⟨hN, .inr h', .inl (by show (scope.names.lookup x == some .cell) = true; rw [h]; rfl)⟩
    · cases z
theorem IsBlk.gl (b : IsBlk X X' scope) {x : Str} (hl : scope.names.lookup x = some .globalImplicit) : Gl X' x := by
  obtain ⟨s, H, C, cl, fp, rfl⟩ := b
  rcases relabel_look (env := X.env) hl with h | ⟨z, _⟩
  · exact h
  · cases z
theorem IsBlk.blt (b : IsBlk X X' scope) {x : Str} {v : Value} (hl : scope.names.lookup x = some .globalImplicit) (hm : X.mg x = none) (hv : bootBuiltins x = some v) (hn : x ≠ "__name__") (hdb : (x == ("__debug__" : Str)) = false) : BltAt X' x v := by
  have g := b.gl hl
  obtain ⟨s, H, C, cl, fp, rfl⟩ := b
  exact ⟨g, hm, hv, hn, hdb⟩
end

theorem wipe_get (σ : L2.St) : ∀ (vs : List Nat) (j : Nat), (wipe σ vs)[j]? = if j ∈ vs ∧ j < σ.length then some none else σ[j]?
  | [], j => by simp [wipe]
  | v :: vs, j => by
    unfold wipe
    by_cases e : v = j
    · subst e
      rw [List.getElem?_set]
      simp only [if_pos, wipe_length]
      by_cases h : v < σ.length
      · rw [if_pos h, if_pos ⟨List.mem_cons_self, h⟩]
      · rw [if_neg h, if_neg fun z => h z.2, List.getElem?_eq_none (by omega)]
    · rw [List.getElem?_set_ne e, wipe_get σ vs j]
      by_cases h : j ∈ vs ∧ j < σ.length
      · rw [if_pos h, if_pos ⟨List.mem_cons_of_mem _ h.1, h.2⟩]
      · rw [if_neg h, if_neg fun z => h ⟨(List.mem_cons.mp z.1).resolve_left fun q => e q.symm, z.2⟩]
theorem wipe_set {σ : L2.St} {vs : List Nat} {i : Nat} {x : Option V} (h : i ∈ vs) : wipe (σ.set i x) vs = wipe σ vs := by
  apply List.ext_getElem?
  intro j
  rw [wipe_get, wipe_get, List.length_set]
  by_cases e : j ∈ vs ∧ j < σ.length
  · rw [if_pos e, if_pos e]
  · rw [if_neg e, if_neg e]
    by_cases q : i = j
    · subst q
      have hl : ¬ i < σ.length := fun z => e ⟨h, z⟩
      rw [List.getElem?_eq_none (by rw [List.length_set]; omega), List.getElem?_eq_none (by omega)]
    · rw [List.getElem?_set_ne q]
theorem wipe_wipe {σ : L2.St} {vs : List Nat} : wipe (wipe σ vs) vs = wipe σ vs := by
  apply List.ext_getElem?
  intro j
  rw [wipe_get, wipe_get, wipe_length]
  by_cases e : j ∈ vs ∧ j < σ.length
  · rw [if_pos e, if_pos e]
  · rw [if_neg e, if_neg e]
def wipeD (sl : List (Option D)) : List Nat → List (Option D)
  | [] => sl
  | v :: vs => (wipeD sl vs).set v none
theorem wipeD_len (sl : List (Option D)) : ∀ vs, (wipeD sl vs).length = sl.length
  | [] => rfl
  | v :: vs => by unfold wipeD; rw [List.length_set, wipeD_len sl vs]
theorem wipeD_get {sl : List (Option D)} {d : D} : ∀ {vs : List Nat} {j : Nat}, (wipeD sl vs)[j]? = some (some d) → sl[j]? = some (some d) ∧ j ∉ vs
  | [], j, h => ⟨h, by simp⟩
  | v :: vs, j, h => by
    unfold wipeD at h
    by_cases e : v = j
    · subst e
      rw [List.getElem?_set] at h
      simp only [if_pos] at h
      split at h <;> cases h
    · rw [List.getElem?_set_ne e] at h
      obtain ⟨a, b⟩ := wipeD_get h
      exact ⟨a, fun z => (List.mem_cons.mp z).elim (fun q => e q.symm) b⟩
class WipeS (sl : List (Option D)) (vs : List Nat) (sl' : outParam (List (Option D))) : Prop where
  e : sl' = wipeD sl vs
instance WipeS.nil {sl : List (Option D)} : WipeS sl [] sl := ⟨rfl⟩
instance WipeS.cons {sl sl1 sl2 : List (Option D)} {v : Nat} {vs : List Nat} [h : WipeS sl vs sl1] [h2 : SetS sl1 v none sl2] : WipeS sl (v :: vs) sl2 := ⟨by rw [h2.e, h.e]; rfl⟩
section
variable {F : Fr} {G G' : Hp} {σ σ' : L2.St} {H H' : Hp} {sl sl' : List (Option D)} {M M' R : Mem}
/-- other slots -/
theorem Holds.slots (h : Holds F G ⟨sl, M, R⟩ σ H) (hl : σ'.length = sl'.length) (hs : ∀ (i : Nat) (d : D), sl'[i]? = some (some d) → ∃ v, σ'[i]? = some (some v) ∧ Rep G v d) : Holds F G ⟨sl', M, R⟩ σ' H :=
  ⟨h.g0, h.gh, h.bh, h.gb, h.nw, hl, hs, h.mem, h.rd⟩
theorem Holds.wiped (h : Holds F G ⟨sl, M, R⟩ σ H) (vs : List Nat) : Holds F G ⟨wipeD sl vs, M, R⟩ (wipe σ vs) H := by
  refine h.slots (by rw [wipe_length, wipeD_len]; exact h.len) fun i d e => ?_
  obtain ⟨a, b⟩ := wipeD_get e
  obtain ⟨v, c, r⟩ := h.sl i d a
  exact ⟨v, by rw [wipe_get, if_neg fun z => b z.1]; exact c, r⟩
end

/-- a clause's target: it stores at the block's own names alone -/
def WGC (X : Cx) (F : Fr) (tg : Expr) (d : D) (vs : List Nat) (Γ : DL.Env) (Q : DL.Env → Prop) : Prop := ∀ G σ H v, Holds F G Γ σ H → Rep G v d → ∀ R : L2.St → Hp → Prop, (∀ Γ' G' σ' H', Q Γ' → Same G G' → Holds F G' Γ' σ' H' → wipe σ' vs = wipe σ vs → R σ' H') → tUG X tg v σ H R
def WGCs (X : Cx) (F : Fr) (tg : List Expr) (ds : List D) (vs : List Nat) (Γ : DL.Env) (Q : DL.Env → Prop) : Prop := ∀ G σ H xs, Holds F G Γ σ H → Reps G xs ds → ∀ R : L2.St → Hp → Prop, (∀ Γ' G' σ' H', Q Γ' → Same G G' → Holds F G' Γ' σ' H' → wipe σ' vs = wipe σ vs → R σ' H') → tUGs X tg xs σ H R
def WTs (X : Cx) (F : Fr) (ifs : List Expr) (Γ : DL.Env) (Q : Bool → DL.Env → Prop) : Prop := ∀ G σ H, Holds F G Γ σ H → ∀ R : Bool → Hp → Prop, GoodB F Q G σ R → ∀ (pins : List (Addr × Obj)) (s : Shared), Inv X pins σ H s →
  wpAny (model X.prog X.w) X.A (forIn ifs true fun c r => if r = true then do let ok ← isTrue c X.env (eval c X.env); pure (ForInStep.yield ok) else pure (ForInStep.yield r)) (TP X pins σ R) X.xe s
section
variable {X : Cx} {F : Fr} {Γ : DL.Env} {Q : D → DL.Env → Prop} {sl sl' : List (Option D)} {M M' R : Mem} {vs : List Nat} {QG : DL.Env → Prop}
theorem wgc_name {i : Nat} {x : Str} {pos : Pos} {d : D} (hX : Std X) (n : StoreAt X i x) (hi : i ∈ vs) (q : Put i d Γ QG) : WGC X F (.Name x pos) d vs Γ QG := fun G σ H v hh r K hK =>
  tUG_of (pg_name hX.nd n.hN n.loc n.fn) (hK _ G _ H q (Same.refl G) (hh.setSl r i) (wipe_set hi))
theorem wgcs_nil (q : QG Γ) : WGCs X F [] [] vs Γ QG := fun G σ H xs hh r K hK => by
  rw [r.nil_inv]
  exact tUGs_of pgs_nil ⟨rfl, hK Γ G σ H q (Same.refl G) hh rfl⟩
theorem wgcs_cons {e : Expr} {es : List Expr} {d : D} {ds : List D} (hs : (assignEach (e :: es) X.env).map (·.2) = assign e X.env :: (assignEach es X.env).map (·.2)) (h : WGC X F e d vs Γ fun Γ1 => WGCs X F es ds vs Γ1 QG) : WGCs X F (e :: es) (d :: ds) vs Γ QG := fun G σ H xs hh r K hK => by
  obtain ⟨v, vr, rfl, ra, rb⟩ := r.cons_inv
  refine tUGs_of (pgs_cons pg_U pgs_U hs) ⟨v, vr, rfl, h G σ H v hh ra _ fun Γ' G' σ' H' q s h' e1 => q G' σ' H' vr h' (rb.mono s) K fun Γ2 G2 σ2 H2 q2 s2 h2 e2 => hK Γ2 G2 σ2 H2 q2 (s.trans s2) h2 (e2.trans e1)⟩
theorem wgc_tup {es : List Expr} {k : Nat} {pos : Pos} {d : D} {ds : List D} (hX : Std X) [s : SeeT M R d ds] (hn : (assignEach es X.env).length = ds.length) (hst : (assignEach es X.env).findIdx? (·.1) = none) (h : WGCs X F es ds vs ⟨sl, M, R⟩ QG) : WGC X F (.Tuple es k pos) d vs ⟨sl, M, R⟩ QG := fun G σ H v hh r K hK => by
  obtain ⟨p, xs, rfl, hS, hr⟩ := hh.seeT (K := X.K) r s.see
  exact tUG_of (pg_tup hX.calm pgs_U hn hst) ⟨p, xs, rfl, hS, hr.1, h G σ H xs hh hr K hK⟩
theorem wts_nil {Q : Bool → DL.Env → Prop} (q : Q true Γ) : WTs X F [] Γ Q := fun G σ H hh R hR pins s I => pts_nil.run pins s σ H R I (hR true Γ G H q (Same.refl G) hh)
theorem wts_one {c : Expr} {Q : Bool → DL.Env → Prop} (h : WT X F c Γ Q) : WTs X F [c] Γ Q := fun G σ H hh R hR pins s I => (pts_one pt_U).run pins s σ H R I (h G σ H hh R hR)

/-- what a comprehension is asked: the list grows at a; W by the turn, what is made so far, our own things -/
def LcPost (X : Cx) (F : Fr) (tg elt : Expr) (ifs : List Expr) (scope : Scope) (vs : List Nat) (sl : List (Option D)) (M R : Mem) (items : List D) (stand : DL.Env → Prop) (a : Addr) (Q : List D → Mem → Prop) : Prop :=
  ∃ W : Nat → List D → Mem → Prop, W 0 [] M ∧ (∀ i acc M', W i acc M' → stand ⟨wipeD sl vs, (a, .lst acc) :: M', R⟩) ∧
    (∀ (i : Nat) x acc M', items[i]? = some x → W i acc M' → ∀ X', IsBlk X X' scope → WGC X' F tg x vs ⟨wipeD sl vs, (a, .lst acc) :: M', R⟩ fun Γ2 => ∀ X', IsBlk X X' scope → WTs X' F ifs Γ2 fun b Γ3 =>
      (b = true → ∀ X', IsBlk X X' scope → WE X' F elt Γ3 fun y Γ4 => Fz F y Γ4 fun y Γ5 => ∃ s5 M5, Γ5 = ⟨s5, (a, .lst acc) :: M5, R⟩ ∧ acc.length < sizeLine ∧ W (i + 1) (acc ++ [y]) M5) ∧
      (b = false → ∃ s5 M5, Γ3 = ⟨s5, (a, .lst acc) :: M5, R⟩ ∧ W (i + 1) acc M5)) ∧
    ∀ acc M', W items.length acc M' → Q acc M'
def tgB (X : Cx) (tg : Expr) (scope : Scope) : TG := fun v σ H Q => ∀ (s : Shared) (H0 : Hp) (C : Addr) (cl : List (Str × Addr)) (fp : List Addr), tUG (X.blk s H0 scope (compEnvC scope cl C X.env) fp) tg v σ H Q
def ttB (X : Cx) (ifs : List Expr) (scope : Scope) : TT := fun σ H Q => ∀ (s : Shared) (H0 : Hp) (C : Addr) (cl : List (Str × Addr)) (fp : List Addr) (pins : List (Addr × Obj)) (s' : Shared), Inv (X.blk s H0 scope (compEnvC scope cl C X.env) fp) pins σ H s' →
  wpAny (model X.prog X.w) X.A (forIn ifs true fun c r => if r = true then do let ok ← isTrue c (compEnvC scope cl C X.env) (eval c (compEnvC scope cl C X.env)); pure (ForInStep.yield ok) else pure (ForInStep.yield r)) (TP (X.blk s H0 scope (compEnvC scope cl C X.env) fp) pins σ Q) (fun _ _ => False) s'
def teB (X : Cx) (elt : Expr) (scope : Scope) : TE := fun σ H Q => ∀ (s : Shared) (H0 : Hp) (C : Addr) (cl : List (Str × Addr)) (fp : List Addr), tU (X.blk s H0 scope (compEnvC scope cl C X.env) fp) elt σ H Q
theorem pg_B {tg : Expr} {scope : Scope} (s : Shared) (H0 : Hp) (C : Addr) (cl : List (Str × Addr)) (fp : List Addr) : PG (X.blk s H0 scope (compEnvC scope cl C X.env) fp) tg (tgB X tg scope) := ⟨fun pins s' σ H v u Q I r h => h s H0 C cl fp pins s' u I r⟩
theorem pts_B {ifs : List Expr} {scope : Scope} (s : Shared) (H0 : Hp) (C : Addr) (cl : List (Str × Addr)) (fp : List Addr) : PTs (X.blk s H0 scope (compEnvC scope cl C X.env) fp) ifs (ttB X ifs scope) := ⟨fun pins s' σ H Q I h => h s H0 C cl fp pins s' I⟩
theorem pe_B {elt : Expr} {scope : Scope} (s : Shared) (H0 : Hp) (C : Addr) (cl : List (Str × Addr)) (fp : List Addr) : PE (X.blk s H0 scope (compEnvC scope cl C X.env) fp) elt (teB X elt scope) := ⟨fun pins s' σ H Q I h => h s H0 C cl fp pins s' I⟩
theorem lc_sem {tg elt iter : Expr} {ifs : List Expr} {scope : Scope} {own : List (Str × Nat)}
    (h : WI X F tg iter Γ fun items stand Γ1 => ∀ a, LcPost X F tg elt ifs scope (own.map (·.2)) Γ1.sl Γ1.M Γ1.R items stand a fun acc M' => Q (.ref a) ⟨Γ1.sl, (a, .lst acc) :: M', Γ1.R⟩)
    {G : Hp} {σ : L2.St} {H : Hp} (hh : Holds F G Γ σ H) {K : VK} (hK : Good F Q G σ K) :
    tLc (tUI X tg iter) (tgB X tg scope) (ttB X ifs scope) (teB X elt scope) (own.map (·.2)) σ H K := by
  refine h G σ H hh _ fun items stand Γ1 G1 H1 J hp s1 h1 js => ?_
  intro a ha
  obtain ⟨W, w0, wst, turn, done⟩ := hp a
  have hb : Holds F G1 ⟨wipeD Γ1.sl (own.map (·.2)), (a, .lst []) :: Γ1.M, Γ1.R⟩ (wipe σ (own.map (·.2))) (upd H1 a (.lst [])) := (h1.newOwn (o := .lst []) ha (.lst Reps.nil)).wiped (own.map (·.2))
  refine ⟨fun i m H' => i + m = items.length ∧ ∃ acc M' G', Same G1 G' ∧ Holds F G' ⟨wipeD Γ1.sl (own.map (·.2)), (a, .lst acc) :: M', Γ1.R⟩ (wipe σ (own.map (·.2))) H' ∧ W i acc M', ⟨items.length, by omega, [], Γ1.M, G1, Same.refl _, hb, w0⟩, fun i m H' hW => ?_⟩
  obtain ⟨em, acc, M', G', sg, h', w⟩ := hW
  obtain ⟨stop, go⟩ := js _ G' _ H' sg h' (wst i acc M' w)
  by_cases hi : i < items.length
  · obtain ⟨g1, g2⟩ := go i items[i] (List.getElem?_eq_getElem hi)
    -- what the next turn is to find
    have next : ∀ {s5 : List (Option D)} {acc' : List D} {M5 : Mem} {G5 : Hp} {σ5 : L2.St} {H5 : Hp}, Same G1 G5 → Holds F G5 ⟨s5, (a, .lst acc') :: M5, Γ1.R⟩ σ5 H5 → W (i + 1) acc' M5 →
        i + 1 + (m - 1) = items.length ∧ ∃ acc M' G', Same G1 G' ∧ Holds F G' ⟨wipeD Γ1.sl (own.map (·.2)), (a, .lst acc) :: M', Γ1.R⟩ (wipe σ (own.map (·.2))) H5 ∧ W (i + 1) acc M' := fun {s5 acc' M5 G5 σ5 H5} s5' h5 w5 => by
      refine ⟨by omega, acc', M5, G5, s5', ?_, w5⟩
      refine h5.slots hb.len fun j d e => ?_
      obtain ⟨v, c, r⟩ := hb.sl j d e
      exact ⟨v, c, r.mono s5'⟩
    refine .inr ⟨g1, fun H'' => i + 1 + (m - 1) = items.length ∧ ∃ acc M' G', Same G1 G' ∧ Holds F G' ⟨wipeD Γ1.sl (own.map (·.2)), (a, .lst acc) :: M', Γ1.R⟩ (wipe σ (own.map (·.2))) H'' ∧ W (i + 1) acc M', fun H'' z => ⟨m - 1, by omega, z⟩, fun v H'' y => ?_⟩
    obtain ⟨G2, s2, h2, r2⟩ := g2 v H'' y
    intro sh H0 C cl fp
    refine turn i _ acc M' (List.getElem?_eq_getElem hi) w _ ⟨sh, H0, C, cl, fp, rfl⟩ G2 _ H'' v h2 r2 _ fun Γ2 G3 σ3 H3 q3 s3 h3 e3 => ?_
    refine ⟨by rw [e3, wipe_wipe], ?_⟩
    intro sh H0 C cl fp
    intro pins s' I
    refine q3 _ ⟨sh, H0, C, cl, fp, rfl⟩ G3 σ3 H3 h3 _ (fun b Γ4 G4 H4 q4 s4 h4 => ?_) pins s' I
    cases b with
    | false =>
      rw [if_neg Bool.false_ne_true]
      obtain ⟨s5, M5, rfl, w5⟩ := q4.2 rfl
      exact next (((sg.trans s2).trans s3).trans s4) h4 w5
    | true =>
      rw [if_pos rfl]
      intro sh H0 C cl fp
      refine we_fz (q4.1 rfl _ ⟨sh, H0, C, cl, fp, rfl⟩) G4 σ3 H4 h4 _ fun y Γ5 G5 vy H5 q5 s5 h5 r5 => ?_
      obtain ⟨sl5, M5, rfl, hl, w5⟩ := q5
      obtain ⟨_, _, o, ho, hs⟩ := h5.mem.at_ (a, .lst acc) List.mem_cons_self
      obtain ⟨vs5, rfl, hr⟩ := hs.lst_inv
      refine ⟨vs5, ho, by rw [hr.1]; exact hl, ?_⟩
      have hw := h5.write (k := 0) (c := .lst acc) (c' := .lst (acc ++ [y])) (o' := .lst (vs5 ++ [vy])) rfl (.lst (hr.append (Reps.cons r5 Reps.nil)))
      exact next ((((sg.trans s2).trans s3).trans s4).trans s5) hw w5
  · have ei : i = items.length := by omega
    subst ei
    refine .inl ⟨stop, hK _ _ G' _ _ (done acc M' w) (s1.trans sg) ?_ (.ref a)⟩
    refine h'.slots h1.len fun j d e => ?_
    obtain ⟨v, c, r⟩ := h1.sl j d e
    exact ⟨v, c, r.mono sg⟩
theorem we_lc {tg elt iter : Expr} {ifs : List Expr} {scope : Scope} {own : List (Str × Nat)} {pos : Pos} (hX : Std X) (ok : BlkOk X.N X.env.scope scope own) (hs : ∀ x, foldedSetIterable iter X.env x = pure x)
    (h : WI X F tg iter Γ fun items stand Γ1 => ∀ a, LcPost X F tg elt ifs scope (own.map (·.2)) Γ1.sl Γ1.M Γ1.R items stand a fun acc M' => Q (.ref a) ⟨Γ1.sl, (a, .lst acc) :: M', Γ1.R⟩) :
    WE X F (.ListComp elt [⟨tg, iter, ifs, 0⟩] scope pos) Γ Q := fun G σ H hh K hK => by
  refine tU_of (pe_lc hX.calm hX.nd pi_U ok pg_B pts_B pe_B hs) ?_
  exact lc_sem h hh hK
theorem ws_setLc {i : Nat} {y : Str} {py pos spos : Pos} {tg elt iter : Expr} {ifs : List Expr} {scope : Scope} {own : List (Str × Nat)} {O : Out} (hX : Std X) (hy : X.N[i]? = some y) (hyl : X.env.scope.names.lookup y = some .local)
    (hsw : swapsWith (.ListComp elt [⟨tg, iter, ifs, 0⟩] scope pos) (some (.Name y py)) spos.line X.env = pure true) (ok : BlkOk X.N X.env.scope scope own) (hs : ∀ x, foldedSetIterable iter X.env x = pure x)
    (h : WI X F tg iter Γ fun items stand Γ1 => ∀ a, LcPost X F tg elt ifs scope (own.map (·.2)) Γ1.sl Γ1.M Γ1.R items stand a fun acc M' => Put i (.ref a) ⟨Γ1.sl, (a, .lst acc) :: M', Γ1.R⟩ O.nx) :
    WS X F (.Assign [.Name y py] (.ListComp elt [⟨tg, iter, ifs, 0⟩] scope pos) spos) Γ O := fun G σ H hh E hE => by
  refine tUS_of (ps_setLc hX.calm hX.nd hy hyl hsw pi_U ok pg_B pts_B pe_B hs) ?_
  exact lc_sem (Q := fun d Γ1 => Put i d Γ1 O.nx) h hh fun d Γ1 G1 v H1 q s1 h1 r1 => hE.nx _ G1 _ H1 q s1 (h1.setSl r1 i)
end

/-! ### data that is compared -/
mutual
def D.py : D → PyData
  | .non => .none
  | .bl b => .bool b
  | .int i => .int i
  | .str x => .str x
  | .tup ds => .tuple (pys ds)
  | .lst ds => .list (pys ds)
  | _ => .none
def pys : List D → List PyData
  | [] => []
  | d :: ds => d.py :: pys ds
end
mutual
def D.pure : D → Bool
  | .non => true
  | .bl _ => true
  | .int _ => true
  | .str _ => true
  | .tup ds => pures ds
  | .lst ds => pures ds
  | _ => false
def pures : List D → Bool
  | [] => true
  | d :: ds => d.pure && pures ds
end
mutual
theorem dp_of {K : PySem.W.Frag} {G H : Hp} (e : Same G H) : ∀ (d : D) (v : V), Rep G v d → d.pure = true → Dp K H v d.py
  | .non, v, r, _ => by rw [r.non_inv]; exact .non
  | .bl b, v, r, _ => by rw [r.bl_inv]; exact .bl b
  | .int i, v, r, _ => by rw [r.int_inv]; exact .int i
  | .str x, v, r, _ => by rw [r.str_inv]; exact .str x
  | .tup ds, v, r, h => by
    obtain ⟨p, vs, rfl, e1, rr⟩ := r.tup_inv
    rw [D.py]
    exact .tup (.inl (.inl (e _ _ e1))) (dps_of e ds vs rr (by rw [D.pure] at h; exact h))
  | .lst ds, v, r, h => by
    obtain ⟨p, vs, rfl, e1, rr⟩ := r.lst_inv
    rw [D.py]
    exact .lst (.inl (.inl (e _ _ e1))) (dps_of e ds vs rr (by rw [D.pure] at h; exact h))
  | .ref _, v, r, h => by simp [D.pure] at h
  | .ty _, v, r, h => by simp [D.pure] at h
  | .dK _, v, r, h => by simp [D.pure] at h
  | .dT _, v, r, h => by simp [D.pure] at h
  | .st _, v, r, h => by simp [D.pure] at h
  | .ins _ _, v, r, h => by simp [D.pure] at h
theorem dps_of {K : PySem.W.Frag} {G H : Hp} (e : Same G H) : ∀ (ds : List D) (vs : List V), Reps G vs ds → pures ds = true → DpAll K H vs (pys ds)
  | [], vs, r, _ => by rw [r.nil_inv, pys]; exact .nil
  | d :: ds, vs, r, h => by
    obtain ⟨v, vr, rfl, a, b⟩ := r.cons_inv
    rw [pures, Bool.and_eq_true] at h
    rw [pys]
    exact .cons (dp_of e d v a h.1) (dps_of e ds vr b h.2)
end
/-- a value as it is compared -/
class SeeA (M R : Mem) (d : D) (c : outParam D) : Prop where
  see : See M R d c
instance (priority := 10) SeeA.self {M R : Mem} {d : D} : SeeA M R d d := ⟨.self _⟩
instance SeeA.rd {M R : Mem} {p : Addr} {c : D} {k : Nat} [h : At R p c k] : SeeA M R (.ref p) c := ⟨.rd (List.mem_of_getElem? h.e)⟩
instance SeeA.own {M R : Mem} {p : Addr} {c : D} {k : Nat} [h : At M p c k] : SeeA M R (.ref p) c := ⟨.own (List.mem_of_getElem? h.e)⟩
instance (priority := low) SeeA.wk {R : Mem} {d c : D} {q : Addr × D} [h : SeeA [] R d c] : SeeA [] (q :: R) d c := ⟨see_wk h.see⟩
instance (priority := low) SeeA.any' {M R : Mem} {d c : D} [h : SeeA [] R d c] : SeeA M R d c := ⟨h.see.any⟩
section
variable {X : Cx} {F : Fr} {Q : D → DL.Env → Prop} {sl : List (Option D)} {M R : Mem}
theorem Holds.seeDp {G : Hp} {σ : L2.St} {H : Hp} {Γ : DL.Env} (hh : Holds F G Γ σ H) {K : PySem.W.Frag} {d c : D} {v : V} (r : Rep G v d) (s : See Γ.M Γ.R d c) (h : c.pure = true) : Dp K H v c.py := by
  rcases hh.see r s with ⟨p, o, rfl, ho, hs⟩ | ⟨rfl, r⟩
  · cases hs with
    | lst rr =>
      rw [D.pure] at h; rw [D.py]
      exact .lst (.inl ho) (dps_of hh.gh _ _ rr h)
    | dK _ _ => simp [D.pure] at h
    | dT _ _ => simp [D.pure] at h
    | ins _ _ => simp [D.pure] at h
  · exact dp_of hh.gh _ _ r h
def okPy (c : D) : Prop := c.pure = true ∧ SeqAt.shaped c.py = true
theorem wo_eqD (hX : Std X) {d1 d2 c1 c2 : D} [s1 : SeeA M R d1 c1] [s2 : SeeA M R d2 c2] (h1 : okPy c1) (h2 : okPy c2) (q : Q (.bl (PyData.eqv c1.py c2.py)) ⟨sl, M, R⟩) : WO X F (compareOp .Eq) d1 d2 ⟨sl, M, R⟩ Q :=
  wo_of (op_eqD hX.hu) fun G σ H x y hh r1 r2 K hK => ⟨_, _, hh.seeDp r1 s1.see h1.1, hh.seeDp r2 s2.see h2.1, h1.2, h2.2, hK.here hh q (.bl _)⟩
theorem wo_neD (hX : Std X) {d1 d2 c1 c2 : D} [s1 : SeeA M R d1 c1] [s2 : SeeA M R d2 c2] (h1 : okPy c1) (h2 : okPy c2) (q : Q (.bl (!PyData.eqv c1.py c2.py)) ⟨sl, M, R⟩) : WO X F (compareOp .NotEq) d1 d2 ⟨sl, M, R⟩ Q :=
  wo_of (op_neD hX.hu) fun G σ H x y hh r1 r2 K hK => ⟨_, _, hh.seeDp r1 s1.see h1.1, hh.seeDp r2 s2.see h2.1, h1.2, h2.2, hK.here hh q (.bl _)⟩
end
end DL

/-! The D layer, part 8: names of a def's context; the defs of a text; branches. -/
namespace DL
open PySem PySem.Spec PyProof.Rows L2

section
variable {P : Program} {w : World} {K : PySem.W.Frag} {mg : Str → Option Value} {base : Heap} {k : Nat} {X : Cx} {N : List Str} {sc : Scope}
theorem Nm.name (n : Nm X N sc) {i : Nat} {x : Str} (hN : N[i]? = some x) (hl : sc.names.lookup x = some .local ∨ sc.names.lookup x = some .cell) (d1 : (x == ("__debug__" : Str)) = false) (d2 : (x == ("__classdict__" : Str)) = false) : NameAt X i x := by
  refine ⟨by rw [n.N]; exact hN, ?_, d1, d2⟩
  rw [n.sc]
  exact hl.elim .inl fun z => .inr (.inl z)
theorem Nm.store (n : Nm X N sc) {i : Nat} {x : Str} (hN : N[i]? = some x) (hl : sc.names.lookup x = some .local ∨ sc.names.lookup x = some .cell) : StoreAt X i x :=
  ⟨by rw [n.N]; exact hN, by rw [n.sc]; exact hl, .inl (by rw [n.fn])⟩
theorem Nm.gl (n : Nm X N sc) {x : Str} (hl : sc.names.lookup x = some .globalImplicit) : Gl X x := by
  show X.env.scope.names.lookup x = _
  rw [n.sc]; exact hl
theorem Nm.blt (n : Nm X N sc) (hX : In X P w K mg base k) {x : Str} {v : Value} (hl : sc.names.lookup x = some .globalImplicit) (hm : mg x = none) (hv : bootBuiltins x = some v) (hn : x ≠ "__name__") (hdb : (x == ("__debug__" : Str)) = false) : BltAt X x v :=
  ⟨n.gl hl, by rw [hX.mg]; exact hm, hv, hn, hdb⟩
theorem IsBlk.blt' {X' : Cx} {scope : Scope} (b : IsBlk X X' scope) (hX : In X P w K mg base k) {x : Str} {v : Value} (hl : scope.names.lookup x = some .globalImplicit) (hm : mg x = none) (hv : bootBuiltins x = some v) (hn : x ≠ "__name__") (hdb : (x == ("__debug__" : Str)) = false) : BltAt X' x v :=
  b.blt hl (by rw [hX.mg]; exact hm) hv hn hdb
theorem Nm.blk (n : Nm X N sc) {scope : Scope} {own : List (Str × Nat)} (h : blkC N sc scope own = true) : BlkOk X.N X.env.scope scope own := by
  rw [n.N, n.sc]; exact blkOk_by h
/-- a def of the text -/
def DefAt (K : PySem.W.Frag) (mg : Str → Option Value) (x : Str) (st : Stmt) : Prop := ∃ (f : Addr) (fd : FuncData), Fun K x x st f fd ∧ mg x = some (.ref f)
theorem calD {x : Str} {st : Stmt} {N ps : List Str} {k : Nat} {S : SpD} (Da : DefAt K mg x st) (Sc : FnScope N ps (defScope st)) (hb : ∀ f fd, Fun K x x st f fd → Binds K fd ps []) (len : ∀ ds M R Q, S ds M R Q → ds.length = ps.length)
    (hbody : ∀ (X : Cx) (F : Fr), In X P w K mg base k → Nm X N (defScope st) → ∀ ds M R Q, S ds M R Q → WSs X F (defBody st) ⟨startD N.length ds, M, R⟩ (outD Q)) : Cal P w K mg base (k + 1) x S := by
  obtain ⟨f, fd, Fu, hm⟩ := Da
  exact ⟨f, fd, ps, fnD Fu Sc len hbody, hm, Fu.kp, hb f fd Fu⟩
end

/-! ### isinstance -/
class Kit (t T : String) (b : outParam Bool) : Prop where
  h : kitB t T = some b
instance : Kit "NoneType" "int" false := ⟨by decide +kernel⟩
instance : Kit "NoneType" "bool" false := ⟨by decide +kernel⟩
instance : Kit "NoneType" "str" false := ⟨by decide +kernel⟩
instance : Kit "NoneType" "tuple" false := ⟨by decide +kernel⟩
instance : Kit "NoneType" "list" false := ⟨by decide +kernel⟩
instance : Kit "NoneType" "dict" false := ⟨by decide +kernel⟩
instance : Kit "int" "int" true := ⟨by decide +kernel⟩
instance : Kit "int" "bool" false := ⟨by decide +kernel⟩
instance : Kit "int" "str" false := ⟨by decide +kernel⟩
instance : Kit "int" "tuple" false := ⟨by decide +kernel⟩
instance : Kit "int" "list" false := ⟨by decide +kernel⟩
instance : Kit "int" "dict" false := ⟨by decide +kernel⟩
instance : Kit "str" "int" false := ⟨by decide +kernel⟩
instance : Kit "str" "bool" false := ⟨by decide +kernel⟩
instance : Kit "str" "str" true := ⟨by decide +kernel⟩
instance : Kit "str" "tuple" false := ⟨by decide +kernel⟩
instance : Kit "str" "list" false := ⟨by decide +kernel⟩
instance : Kit "str" "dict" false := ⟨by decide +kernel⟩
instance : Kit "bool" "int" true := ⟨by decide +kernel⟩
instance : Kit "bool" "bool" true := ⟨by decide +kernel⟩
instance : Kit "bool" "str" false := ⟨by decide +kernel⟩
instance : Kit "bool" "tuple" false := ⟨by decide +kernel⟩
instance : Kit "bool" "list" false := ⟨by decide +kernel⟩
instance : Kit "bool" "dict" false := ⟨by decide +kernel⟩
instance : Kit "list" "int" false := ⟨by decide +kernel⟩
instance : Kit "list" "bool" false := ⟨by decide +kernel⟩
instance : Kit "list" "str" false := ⟨by decide +kernel⟩
instance : Kit "list" "tuple" false := ⟨by decide +kernel⟩
instance : Kit "list" "list" true := ⟨by decide +kernel⟩
instance : Kit "list" "dict" false := ⟨by decide +kernel⟩
instance : Kit "tuple" "int" false := ⟨by decide +kernel⟩
instance : Kit "tuple" "bool" false := ⟨by decide +kernel⟩
instance : Kit "tuple" "str" false := ⟨by decide +kernel⟩
instance : Kit "tuple" "tuple" true := ⟨by decide +kernel⟩
instance : Kit "tuple" "list" false := ⟨by decide +kernel⟩
instance : Kit "tuple" "dict" false := ⟨by decide +kernel⟩
instance : Kit "dict" "int" false := ⟨by decide +kernel⟩
instance : Kit "dict" "bool" false := ⟨by decide +kernel⟩
instance : Kit "dict" "str" false := ⟨by decide +kernel⟩
instance : Kit "dict" "tuple" false := ⟨by decide +kernel⟩
instance : Kit "dict" "list" false := ⟨by decide +kernel⟩
instance : Kit "dict" "dict" true := ⟨by decide +kernel⟩
theorem wc_isK {X : Cx} {F : Fr} {Q : D → DL.Env → Prop} {sl : List (Option D)} {M R : Mem} {d : D} {t T : String} {b : Bool} [h : TyD M R d t] [k : Kit t T b] (q : Q (.bl b) ⟨sl, M, R⟩) : WC X F (.builtin "isinstance") [d, .ty T] ⟨sl, M, R⟩ Q := wc_isi k.h q

/-! ### comprehensions -/
def LcEnd (F : Fr) (a : Addr) (acc : List D) (R : Mem) (W : List D → Mem → Prop) (y : D) (Γ : DL.Env) : Prop := Fz F y Γ fun y Γ5 => ∃ s5 M5, Γ5 = ⟨s5, (a, .lst acc) :: M5, R⟩ ∧ acc.length < sizeLine ∧ W (acc ++ [y]) M5
def LcAt (X : Cx) (F : Fr) (tg elt : Expr) (ifs : List Expr) (scope : Scope) (vs : List Nat) (items : List D) (stand : DL.Env → Prop) (Γ : DL.Env) (Q : D → DL.Env → Prop) : Prop :=
  ∀ a, LcPost X F tg elt ifs scope vs Γ.sl Γ.M Γ.R items stand a fun acc M' => Q (.ref a) ⟨Γ.sl, (a, .lst acc) :: M', Γ.R⟩
theorem lcend_id {F : Fr} {a : Addr} {acc : List D} {R M5 : Mem} {s5 : List (Option D)} {W : List D → Mem → Prop} {y : D} (hl : acc.length < sizeLine) (hw : W (acc ++ [y]) M5) : LcEnd F a acc R W y ⟨s5, (a, .lst acc) :: M5, R⟩ := fz_id ⟨_, _, rfl, hl, hw⟩
theorem lcend_lst {F : Fr} {a p : Addr} {acc ds : List D} {R M M5 : Mem} {k : Nat} {s5 s6 : List (Option D)} {W : List D → Mem → Prop} [h : At M p (.lst ds) k] [h2 : DelM M k ((a, .lst acc) :: M5)] [h3 : FzS s5 p (.lst ds) s6] (hl : acc.length < sizeLine) (hw : W (acc ++ [.lst ds]) M5) : LcEnd F a acc R W (.ref p) ⟨s5, M, R⟩ := fz_lst ⟨_, _, rfl, hl, hw⟩
section
variable {P : Program} {w : World} {K : PySem.W.Frag} {mg : Str → Option Value} {base : Heap} {k : Nat} {X : Cx} {F : Fr} {Γ : DL.Env} {Q : D → DL.Env → Prop} {sl slw : List (Option D)} {M R : Mem} {elt c : Expr} {scope : Scope} {items : List D} {stand : DL.Env → Prop}
/-- [e for x in ..] -/
theorem lc_name {i : Nat} {x : Str} {pos : Pos} (hX : In X P w K mg base k) (hN : X.N[i]? = some x) (hl : scope.names.lookup x = some .local ∨ scope.names.lookup x = some .cell) [h : WipeS sl [i] slw]
    (W : Nat → List D → Mem → Prop) (w0 : W 0 [] M) (hst : ∀ a j acc M', W j acc M' → stand ⟨slw, (a, .lst acc) :: M', R⟩)
    (turn : ∀ a (j : Nat) d acc M', items[j]? = some d → W j acc M' → Put i d ⟨slw, (a, .lst acc) :: M', R⟩ fun Γ2 => ∀ X', IsBlk X X' scope → WE X' F elt Γ2 (LcEnd F a acc R (W (j + 1))))
    (done : ∀ a acc M', W items.length acc M' → Q (.ref a) ⟨sl, (a, .lst acc) :: M', R⟩) : LcAt X F (.Name x pos) elt [] scope [i] items stand ⟨sl, M, R⟩ Q := fun a => by
  refine ⟨W, w0, fun j acc M' hw => ?_, fun j d acc M' hd hw X' hb => ?_, done a⟩
  · rw [← h.e]; exact hst a j acc M' hw
  · rw [← h.e]
    have hX' := (hb.inn hX).std
    refine wgc_name hX' (hb.store hN hl) List.mem_cons_self ?_
    intro X2 hb2
    refine wts_nil ⟨fun _ X3 hb3 => ?_, fun z => Bool.noConfusion z⟩
    exact turn a j d acc M' hd hw X3 hb3
/-- [e for x in .. if c] -/
theorem lc_name1 {i : Nat} {x : Str} {pos : Pos} (hX : In X P w K mg base k) (hN : X.N[i]? = some x) (hl : scope.names.lookup x = some .local ∨ scope.names.lookup x = some .cell) [h : WipeS sl [i] slw]
    (W : Nat → List D → Mem → Prop) (w0 : W 0 [] M) (hst : ∀ a j acc M', W j acc M' → stand ⟨slw, (a, .lst acc) :: M', R⟩)
    (turn : ∀ a (j : Nat) d acc M', items[j]? = some d → W j acc M' → Put i d ⟨slw, (a, .lst acc) :: M', R⟩ fun Γ2 => ∀ X', IsBlk X X' scope → WT X' F c Γ2 fun b Γ3 => (b = true → ∀ X', IsBlk X X' scope → WE X' F elt Γ3 (LcEnd F a acc R (W (j + 1)))) ∧ (b = false → ∃ s5 M5, Γ3 = ⟨s5, (a, .lst acc) :: M5, R⟩ ∧ W (j + 1) acc M5))
    (done : ∀ a acc M', W items.length acc M' → Q (.ref a) ⟨sl, (a, .lst acc) :: M', R⟩) : LcAt X F (.Name x pos) elt [c] scope [i] items stand ⟨sl, M, R⟩ Q := fun a => by
  refine ⟨W, w0, fun j acc M' hw => ?_, fun j d acc M' hd hw X' hb => ?_, done a⟩
  · rw [← h.e]; exact hst a j acc M' hw
  · rw [← h.e]
    have hX' := (hb.inn hX).std
    refine wgc_name hX' (hb.store hN hl) List.mem_cons_self ?_
    intro X2 hb2
    exact wts_one (turn a j d acc M' hd hw X2 hb2)
/-- [e for x, y in ..] -/
theorem lc_two {i i2 kt : Nat} {x x2 : Str} {pos p1 p2 : Pos} (hX : In X P w K mg base k) (hN : X.N[i]? = some x) (hl : scope.names.lookup x = some .local ∨ scope.names.lookup x = some .cell) (hN2 : X.N[i2]? = some x2) (hl2 : scope.names.lookup x2 = some .local ∨ scope.names.lookup x2 = some .cell) [h : WipeS sl [i, i2] slw]
    (W : Nat → List D → Mem → Prop) (w0 : W 0 [] M) (hst : ∀ a j acc M', W j acc M' → stand ⟨slw, (a, .lst acc) :: M', R⟩)
    (turn : ∀ a (j : Nat) d acc M', items[j]? = some d → W j acc M' → ∃ d1 d2, d = .tup [d1, d2] ∧ Put i d1 ⟨slw, (a, .lst acc) :: M', R⟩ fun Γ1 => Put i2 d2 Γ1 fun Γ2 => ∀ X', IsBlk X X' scope → WE X' F elt Γ2 (LcEnd F a acc R (W (j + 1))))
    (done : ∀ a acc M', W items.length acc M' → Q (.ref a) ⟨sl, (a, .lst acc) :: M', R⟩) : LcAt X F (.Tuple [.Name x p1, .Name x2 p2] kt pos) elt [] scope [i, i2] items stand ⟨sl, M, R⟩ Q := fun a => by
  refine ⟨W, w0, fun j acc M' hw => ?_, fun j d acc M' hd hw X' hb => ?_, done a⟩
  · rw [← h.e]; exact hst a j acc M' hw
  · rw [← h.e]
    have hX' := (hb.inn hX).std
    obtain ⟨d1, d2, rfl, ht⟩ := turn a j d acc M' hd hw
    refine wgc_tup hX' rfl rfl ?_
    refine wgcs_cons rfl (wgc_name hX' (hb.store hN hl) List.mem_cons_self ?_)
    refine wgcs_cons rfl (wgc_name hX' (hb.store hN2 hl2) (List.mem_cons_of_mem _ List.mem_cons_self) ?_)
    refine wgcs_nil ?_
    intro X2 hb2
    refine wts_nil ⟨fun _ X3 hb3 => ?_, fun z => Bool.noConfusion z⟩
    exact ht X3 hb3
theorem lc_two1 {i i2 kt : Nat} {x x2 : Str} {pos p1 p2 : Pos} (hX : In X P w K mg base k) (hN : X.N[i]? = some x) (hl : scope.names.lookup x = some .local ∨ scope.names.lookup x = some .cell) (hN2 : X.N[i2]? = some x2) (hl2 : scope.names.lookup x2 = some .local ∨ scope.names.lookup x2 = some .cell) [h : WipeS sl [i, i2] slw]
    (W : Nat → List D → Mem → Prop) (w0 : W 0 [] M) (hst : ∀ a j acc M', W j acc M' → stand ⟨slw, (a, .lst acc) :: M', R⟩)
    (turn : ∀ a (j : Nat) d acc M', items[j]? = some d → W j acc M' → ∃ d1 d2, d = .tup [d1, d2] ∧ Put i d1 ⟨slw, (a, .lst acc) :: M', R⟩ fun Γ1 => Put i2 d2 Γ1 fun Γ2 => ∀ X', IsBlk X X' scope → WT X' F c Γ2 fun b Γ3 => (b = true → ∀ X', IsBlk X X' scope → WE X' F elt Γ3 (LcEnd F a acc R (W (j + 1)))) ∧ (b = false → ∃ s5 M5, Γ3 = ⟨s5, (a, .lst acc) :: M5, R⟩ ∧ W (j + 1) acc M5))
    (done : ∀ a acc M', W items.length acc M' → Q (.ref a) ⟨sl, (a, .lst acc) :: M', R⟩) : LcAt X F (.Tuple [.Name x p1, .Name x2 p2] kt pos) elt [c] scope [i, i2] items stand ⟨sl, M, R⟩ Q := fun a => by
  refine ⟨W, w0, fun j acc M' hw => ?_, fun j d acc M' hd hw X' hb => ?_, done a⟩
  · rw [← h.e]; exact hst a j acc M' hw
  · rw [← h.e]
    have hX' := (hb.inn hX).std
    obtain ⟨d1, d2, rfl, ht⟩ := turn a j d acc M' hd hw
    refine wgc_tup hX' rfl rfl ?_
    refine wgcs_cons rfl (wgc_name hX' (hb.store hN hl) List.mem_cons_self ?_)
    refine wgcs_cons rfl (wgc_name hX' (hb.store hN2 hl2) (List.mem_cons_of_mem _ List.mem_cons_self) ?_)
    refine wgcs_nil ?_
    intro X2 hb2
    exact wts_one (ht X2 hb2)
theorem we_lc' {tg iter : Expr} {ifs : List Expr} {own : List (Str × Nat)} {vs : List Nat} {pos : Pos} (hX : Std X) (ok : BlkOk X.N X.env.scope scope own) (hs : ∀ x, foldedSetIterable iter X.env x = pure x) (hv : own.map (·.2) = vs)
    (h : WI X F tg iter Γ fun items stand Γ1 => LcAt X F tg elt ifs scope vs items stand Γ1 Q) : WE X F (.ListComp elt [⟨tg, iter, ifs, 0⟩] scope pos) Γ Q := we_lc hX ok hs (by rw [hv]; exact h)
theorem ws_setLc' {i : Nat} {y : Str} {py pos spos : Pos} {tg iter : Expr} {ifs : List Expr} {own : List (Str × Nat)} {vs : List Nat} {O : Out} (hX : Std X) (hy : X.N[i]? = some y) (hyl : X.env.scope.names.lookup y = some .local)
    (hsw : swapsWith (.ListComp elt [⟨tg, iter, ifs, 0⟩] scope pos) (some (.Name y py)) spos.line X.env = pure true) (ok : BlkOk X.N X.env.scope scope own) (hs : ∀ x, foldedSetIterable iter X.env x = pure x) (hv : own.map (·.2) = vs)
    (h : WI X F tg iter Γ fun items stand Γ1 => LcAt X F tg elt ifs scope vs items stand Γ1 fun d Γ2 => Put i d Γ2 O.nx) :
    WS X F (.Assign [.Name y py] (.ListComp elt [⟨tg, iter, ifs, 0⟩] scope pos) spos) Γ O := ws_setLc hX hy hyl hsw ok hs (by rw [hv]; exact h)
end

/-! ### branches -/
section
variable {A B : Prop} {p : Prop} [Decidable p] {c : Bool}
theorem br_true (h : A) : (true = true → A) ∧ (true = false → B) := ⟨fun _ => h, fun z => Bool.noConfusion z⟩
theorem br_false (h : B) : (false = true → A) ∧ (false = false → B) := ⟨fun z => Bool.noConfusion z, fun _ => h⟩
theorem br_dec (h1 : p → A) (h2 : ¬ p → B) : (decide p = true → A) ∧ (decide p = false → B) := ⟨fun z => h1 (of_decide_eq_true z), fun z => h2 (of_decide_eq_false z)⟩
theorem br_ndec (h1 : ¬ p → A) (h2 : p → B) : ((!decide p) = true → A) ∧ ((!decide p) = false → B) := by
  refine ⟨fun z => h1 ?_, fun z => h2 ?_⟩
  · simpa using z
  · simpa using z
theorem br_nndec (h1 : p → A) (h2 : ¬ p → B) : ((!(!decide p)) = true → A) ∧ ((!(!decide p)) = false → B) := by
  rw [Bool.not_not]; exact br_dec h1 h2
theorem br_is (e : c = true) (h : A) : (c = true → A) ∧ (c = false → B) := ⟨fun _ => h, fun z => by rw [e] at z; cases z⟩
theorem br_isnot (e : c = false) (h : B) : (c = true → A) ∧ (c = false → B) := ⟨fun z => (by rw [e] at z; cases z), fun _ => h⟩
/-- the other order: or -/
theorem rb_true (h : B) : (true = false → A) ∧ (true = true → B) := ⟨fun z => Bool.noConfusion z, fun _ => h⟩
theorem rb_false (h : A) : (false = false → A) ∧ (false = true → B) := ⟨fun _ => h, fun z => Bool.noConfusion z⟩
theorem rb_dec (h1 : ¬ p → A) (h2 : p → B) : (decide p = false → A) ∧ (decide p = true → B) := ⟨fun z => h1 (of_decide_eq_false z), fun z => h2 (of_decide_eq_true z)⟩
theorem rb_ndec (h1 : p → A) (h2 : ¬ p → B) : ((!decide p) = false → A) ∧ ((!decide p) = true → B) := by
  refine ⟨fun z => h1 ?_, fun z => h2 ?_⟩
  · simpa using z
  · simpa using z
theorem rb_isnot (e : c = false) (h : A) : (c = false → A) ∧ (c = true → B) := ⟨fun _ => h, fun z => by rw [e] at z; cases z⟩
theorem rb_is (e : c = true) (h : B) : (c = false → A) ∧ (c = true → B) := ⟨fun z => (by rw [e] at z; cases z), fun _ => h⟩
end
/-- the end of a def: what comes back -/
theorem out_rt {P : D → Mem → Prop} {d : D} {Γ : DL.Env} (M' : Mem) (nd : (M'.map (·.1)).Nodup) (hs : Sub M' Γ.M) (h : P d M') : (outD P).rt d Γ := ⟨M', nd, hs, h⟩
theorem rt0 {P : D → Mem → Prop} {d : D} {sl : List (Option D)} {M R : Mem} (h : P d []) : ∃ M', (M'.map (·.1)).Nodup ∧ Sub M' (⟨sl, M, R⟩ : DL.Env).M ∧ P d M' := ⟨[], List.nodup_nil, (fun _ z => nomatch z), h⟩
theorem rt1 {P : D → Mem → Prop} {d c : D} {p : Addr} {sl : List (Option D)} {M R : Mem} {k : Nat} [e : At M p c k] (h : P d [(p, c)]) : ∃ M', (M'.map (·.1)).Nodup ∧ Sub M' (⟨sl, M, R⟩ : DL.Env).M ∧ P d M' :=
  ⟨[(p, c)], by simp, fun q hq => by
    have : q = (p, c) := by simpa using hq
    subst this
    exact List.mem_of_getElem? e.e, h⟩
theorem rtR {P : D → Mem → Prop} {c : D} {p : Addr} {sl : List (Option D)} {M R : Mem} {k : Nat} [e : At M p c k] (h : P (.ref p) [(p, c)]) : ∃ M', (M'.map (·.1)).Nodup ∧ Sub M' (⟨sl, M, R⟩ : DL.Env).M ∧ P (.ref p) M' := rt1 h
/-- two places; they differ where the memory has no place twice -/
theorem out_same {P : D → Mem → Prop} {d : D} {sl : List (Option D)} {M R : Mem} (nd : (M.map (·.1)).Nodup) (h : P d M) : ∃ M', (M'.map (·.1)).Nodup ∧ Sub M' (⟨sl, M, R⟩ : DL.Env).M ∧ P d M' := ⟨M, nd, fun _ z => z, h⟩
/-- what holds in every state may be used -/
theorem wss_nd {X : Cx} {F : Fr} {sts : List Stmt} {sl : List (Option D)} {M R : Mem} {O : Out} (h : (M.map (·.1)).Nodup → WSs X F sts ⟨sl, M, R⟩ O) : WSs X F sts ⟨sl, M, R⟩ O := fun G σ H hh E hE => h hh.mem.nd G σ H hh E hE
theorem log_small {j : Int} (h0 : 0 < j) (h : j < 2 ^ 200) : j.natAbs.log2 < 9000 := by
  have e : j.natAbs < 2 ^ 200 := by omega
  exact Nat.lt_trans (PySem.Flt.log2_lt_of (by decide) e) (by decide)
theorem atI_in {α : Type} {xs : List α} {i : Int} (h0 : 0 ≤ i) (h1 : i < xs.length) : ∃ x, atI xs i = some x ∧ xs[i.toNat]? = some x := by
  obtain ⟨n, rfl⟩ := Int.eq_ofNat_of_zero_le h0
  have hi : n < xs.length := by omega
  exact ⟨xs[n], atI_nat (List.getElem?_eq_getElem hi), List.getElem?_eq_getElem hi⟩
section
variable {X : Cx} {F : Fr} {Γ : DL.Env} {Q : D → DL.Env → Prop} {sl sl' : List (Option D)} {M M' R : Mem} {ea eb : Expr}
/-- an item of a list that is told by a function -/
theorem wx_map {α : Type} {f : α → D} {d : D} {xs : List α} {i : Int} [sd : SeeL M R d (xs.map f)] (h0 : 0 ≤ i) (h1 : i < xs.length) (q : ∀ y, xs[i.toNat]? = some y → Q (f y) ⟨sl, M, R⟩) : WX X F ea eb d (.int i) ⟨sl, M, R⟩ Q := by
  obtain ⟨x, e1, e2⟩ := atI_in (xs := xs.map f) h0 (by rw [List.length_map]; exact h1)
  rw [List.getElem?_map] at e2
  obtain ⟨y, e3, rfl⟩ := Option.map_eq_some_iff.mp e2
  exact wx_list e1 (q y e3)
theorem wc_lenM {α : Type} {f : α → D} {d : D} {xs : List α} [sd : SeeQ M R d (xs.map f)] (q : Q (.int (xs.length : Int)) ⟨sl, M, R⟩) : WC X F (.builtin "len") [d] ⟨sl, M, R⟩ Q :=
  wc_len (ds := xs.map f) (by rw [List.length_map]; exact q)
theorem atI_mapI {α : Type} {f : α → D} {xs : List α} {i : Int} {y : α} (h : atI xs i = some y) : atI (xs.map f) i = some (f y) := by
  unfold atI at h ⊢
  rw [List.length_map]
  cases e : ixN xs.length i with
  | none => rw [e] at h; cases h
  | some j =>
    rw [e] at h
    show (xs.map f)[j]? = _
    rw [List.getElem?_map, show xs[j]? = some y from h]; rfl
theorem wx_mapN {α : Type} {f : α → D} {d : D} {xs : List α} {i : Int} {y : α} [sd : SeeL M R d (xs.map f)] (h : atI xs i = some y) (q : Q (f y) ⟨sl, M, R⟩) : WX X F ea eb d (.int i) ⟨sl, M, R⟩ Q := wx_list (atI_mapI h) q
theorem atI_last2 {α : Type} (xs : List α) (v w : α) : atI (xs ++ [v, w]) (-2) = some v := by
  unfold atI ixN
  have h : ((xs ++ [v, w]).length : Int) = xs.length + 2 := by simp
  rw [if_neg (by decide), if_pos (by omega)]
  show (xs ++ [v, w])[((-2 : Int) + ((xs ++ [v, w]).length : Int)).toNat]? = _
  rw [h, show ((-2 : Int) + ((xs.length : Int) + 2)).toNat = xs.length by omega]
  simp
theorem wm_popM {α : Type} {f : α → D} {p : Addr} {ys zs : List α} {z : α} {k : Nat} [h : At M p (.lst (ys.map f)) k] [h2 : SetM M k (p, .lst (zs.map f)) M'] (e : ys = zs ++ [z]) (q : Q (f z) ⟨sl, M', R⟩) : WM X F "list.pop" (.ref p) [] ⟨sl, M, R⟩ Q := by
  have h' : At M p (.lst (zs.map f ++ [f z])) k := ⟨by rw [h.e, e, List.map_append]; rfl⟩
  exact wm_pop q
theorem cut_m1 {α : Type} (l : List α) (x : α) : cutD (l ++ [x]) none (some (-1)) = l := by
  unfold cutD
  have e : HT.sIx (l ++ [x]).length (l ++ [x]).length (some (-1)) = l.length := by
    have h : ((l ++ [x]).length : Int) = l.length + 1 := by simp
    unfold HT.sIx
    rw [h]
    simp only [if_pos (show (-1 : Int) < 0 by decide)]
    omega
  rw [e, HT.sIx_none]
  simp
theorem sIx_pos {n d : Nat} {i : Int} (h : 0 ≤ i) : HT.sIx n d (some i) = min i.toNat n := by
  unfold HT.sIx
  simp only [if_neg (show ¬ i < 0 by omega)]
theorem cut_to {α : Type} (l : List α) {i : Int} (h : 0 ≤ i) : cutD l none (some i) = l.take i.toNat := by
  unfold cutD
  rw [sIx_pos h, HT.sIx_none, List.drop_zero, Nat.sub_zero, ← List.take_eq_take_min]
theorem cut_from {α : Type} (l : List α) {i : Int} (h : 0 ≤ i) : cutD l (some i) none = l.drop i.toNat := by
  unfold cutD
  rw [sIx_pos h, HT.sIx_none, List.take_of_length_le (by rw [List.length_drop]; exact Nat.le_refl _)]
  by_cases hl : i.toNat ≤ l.length
  · rw [Nat.min_eq_left hl]
  · rw [Nat.min_eq_right (by omega), List.drop_of_length_le (Nat.le_refl _), List.drop_of_length_le (by omega)]
theorem cut_mid {α : Type} (l : List α) {i j : Int} (h : 0 ≤ i) (h2 : 0 ≤ j) : cutD l (some i) (some j) = (l.drop i.toNat).take (j.toNat - i.toNat) := by
  unfold cutD
  rw [sIx_pos h, sIx_pos h2]
  by_cases hi : i.toNat ≤ l.length
  · rw [Nat.min_eq_left hi]
    by_cases hj : j.toNat ≤ l.length
    · rw [Nat.min_eq_left hj]
    · rw [Nat.min_eq_right (by omega), List.take_of_length_le (by rw [List.length_drop]; exact Nat.le_refl _), List.take_of_length_le (by rw [List.length_drop]; omega)]
  · rw [Nat.min_eq_right (show l.length ≤ i.toNat by omega), List.drop_of_length_le (Nat.le_refl _), List.drop_of_length_le (show l.length ≤ i.toNat by omega)]; simp
/-- a word behind a statement -/
theorem ws_mid {st : Stmt} {O : Out} (Mid : DL.Env → Prop) (h : WS X F st Γ { O with nx := Mid }) (h2 : ∀ Γ1, Mid Γ1 → O.nx Γ1) : WS X F st Γ O := ws_mono h h2 (fun _ _ z => z) (fun _ z => z) fun _ z => z
/-- an item of a sequence -/
theorem wx_seq {d : D} {ds : List D} {i : Int} [sd : SeeQ M R d ds] (h0 : 0 ≤ i) (h1 : i < ds.length) (q : ∀ y, ds[i.toNat]? = some y → Q y ⟨sl, M, R⟩) : WX X F ea eb d (.int i) ⟨sl, M, R⟩ Q := by
  obtain ⟨x, e1, e2⟩ := atI_in h0 h1
  rcases sd.see with s | s
  · have : SeeL M R d ds := ⟨s⟩
    exact wx_list e1 (q x e2)
  · have : SeeT M R d ds := ⟨s⟩
    exact wx_tup e1 (q x e2)
instance (priority := low) SeeQ.any' {d : D} {ds : List D} [h : SeeQ [] R d ds] : SeeQ M R d ds := ⟨h.see.elim (fun z => .inl z.any) fun z => .inr z.any⟩
instance (priority := low) SeeQ.wk {q : Addr × D} {d : D} {ds : List D} [h : SeeQ [] R d ds] : SeeQ [] (q :: R) d ds := ⟨h.see.elim (fun z => .inl (see_wk z)) fun z => .inr (see_wk z)⟩
/-- data as the laws compare them: none, ints, texts, tuples and lists of such, to a depth -/
def Isd : Nat → D → Prop
  | _, .non => True
  | _, .int _ => True
  | _, .str _ => True
  | n + 1, .tup ds => ds.length ≤ 16777216 ∧ ∀ d ∈ ds, Isd n d
  | n + 1, .lst ds => ds.length ≤ 16777216 ∧ ∀ d ∈ ds, Isd n d
  | _, _ => False
/-- what a value is: itself, or a list at its place -/
inductive Sh (R : Mem) : D → D → Prop where
  | self (c : D) : Sh R c c
  | lst {d : D} {ds : List D} (h : SeeL [] R d ds) : Sh R d (.lst ds)
theorem wc_allM (hX : Std X) {d : D} {bs : List Bool} [sd : SeeL M R d (bs.map D.bl)] (q : Q (.bl (bs.all id)) ⟨sl, M, R⟩) : WC X F (.builtin "all") [d] ⟨sl, M, R⟩ Q := wc_all hX bs rfl q
theorem wc_anyM (hX : Std X) {d : D} {bs : List Bool} [sd : SeeL M R d (bs.map D.bl)] (q : Q (.bl (bs.any id)) ⟨sl, M, R⟩) : WC X F (.builtin "any") [d] ⟨sl, M, R⟩ Q := wc_any hX bs rfl q
theorem all_rep (n : Nat) : (List.replicate n true).all id = true := by
  induction n with
  | zero => rfl
  | succ n ih => rw [List.replicate_succ, List.all_cons, ih]; rfl
end
end DL

/-! The D layer, part 9: forgetting; the law's own head. -/
namespace DL
open PySem PySem.Spec PyProof.Rows L2
/-! ### forgetting slots and places -/
inductive WkS : List (Option D) → List (Option D) → Prop where
  | nil : WkS [] []
  | keep {x : Option D} {a b : List (Option D)} : WkS a b → WkS (x :: a) (x :: b)
  | drop {x : Option D} {a b : List (Option D)} : WkS a b → WkS (x :: a) (none :: b)
theorem WkS.refl : ∀ a : List (Option D), WkS a a
  | [] => .nil
  | _ :: a => .keep (WkS.refl a)
theorem WkS.len {a b : List (Option D)} (h : WkS a b) : a.length = b.length := by
  induction h with
  | nil => rfl
  | keep _ ih => rw [List.length_cons, List.length_cons, ih]
  | drop _ ih => rw [List.length_cons, List.length_cons, ih]
theorem WkS.get {a b : List (Option D)} (h : WkS a b) : ∀ (i : Nat) (d : D), b[i]? = some (some d) → a[i]? = some (some d) := by
  induction h with
  | nil => exact fun _ _ z => z
  | keep _ ih =>
    intro i d z
    cases i with
    | zero => exact z
    | succ i => exact ih i d z
  | drop _ ih =>
    intro i d z
    cases i with
    | zero => cases z
    | succ i => exact ih i d z
structure Wk (Γ Γ' : DL.Env) : Prop where
  sl : WkS Γ.sl Γ'.sl
  M : Γ'.M.Sublist Γ.M
  R : Γ'.R = Γ.R
theorem Wk.refl (Γ : DL.Env) : Wk Γ Γ := ⟨.refl _, .refl _, rfl⟩
theorem Holds.weak {F : Fr} {G : Hp} {Γ Γ' : DL.Env} {σ : L2.St} {H : Hp} (h : Holds F G Γ σ H) (w : Wk Γ Γ') : Holds F G Γ' σ H :=
  ⟨h.g0, h.gh, h.bh, h.gb, h.nw, h.len.trans w.sl.len, fun i d e => h.sl i d (w.sl.get i d e), ⟨(w.M.map _).nodup h.mem.nd, fun q hq => h.mem.at_ q (w.M.subset hq)⟩, fun q hq => h.rd q (w.R ▸ hq)⟩
section
variable {X : Cx} {F : Fr} {Γ Γ' : DL.Env}
theorem wss_weak {sts : List Stmt} {O : Out} (w : Wk Γ Γ') (h : WSs X F sts Γ' O) : WSs X F sts Γ O := fun G σ H hh E hE => h G σ H (hh.weak w) E hE
def Out.wk (O : Out) : Out := { nx := fun Γ => ∃ Γ', Wk Γ Γ' ∧ O.nx Γ', rt := O.rt, bk := fun Γ => ∃ Γ', Wk Γ Γ' ∧ O.bk Γ', ct := fun Γ => ∃ Γ', Wk Γ Γ' ∧ O.ct Γ' }
theorem wss_wk {sts : List Stmt} {O : Out} (h : WSs X F sts Γ O.wk) : WSs X F sts Γ O := fun G σ H hh E hE =>
  h G σ H hh E ⟨fun Γ1 G1 σ1 H1 ⟨Γ2, a, b⟩ s h1 => hE.nx Γ2 G1 σ1 H1 b s (h1.weak a), hE.rt, fun Γ1 G1 σ1 H1 ⟨Γ2, a, b⟩ s h1 => hE.bk Γ2 G1 σ1 H1 b s (h1.weak a), fun Γ1 G1 σ1 H1 ⟨Γ2, a, b⟩ s h1 => hE.ct Γ2 G1 σ1 H1 b s (h1.weak a)⟩
theorem ws_wk {st : Stmt} {O : Out} (h : WS X F st Γ { O with nx := fun Γ => ∃ Γ', Wk Γ Γ' ∧ O.nx Γ' }) : WS X F st Γ O := fun G σ H hh E hE =>
  h G σ H hh E ⟨fun Γ1 G1 σ1 H1 ⟨Γ2, a, b⟩ s h1 => hE.nx Γ2 G1 σ1 H1 b s (h1.weak a), hE.rt, hE.bk, hE.ct⟩
end
/-! ### the law's own head -/
def spStart (K : PySem.W.Frag) : Sp := fun vs H Q _ => ∃ (a : Addr) (ns : List Int), vs = [.ref a] ∧ SqL K H a (ns.map V.int) ∧ ns.length ≤ 63 ∧ ∀ q p, H q = none → upd H q (.lst (ns.map V.int)) p = none → Q (.ref p) (upd (upd H q (.lst (ns.map V.int))) p (.lst [.ref q, .int 0, .int 0, .int 0]))
def spLaw (K : PySem.W.Frag) : Sp := fun vs H Q _ => ∃ (a : Addr) (ns : List Int), vs = [.ref a] ∧ SqL K H a (ns.map V.int) ∧ ns.length ≤ 63 ∧ ∀ H', Q (.bl true) H'
/-- what stands after _law_start(script) -/
theorem start_holds {H : Hp} {q p : Addr} {ns : List Int} {σ : L2.St} {sl : List (Option D)} (hq : H q = none) (hp : upd H q (.lst (ns.map V.int)) p = none) (h1 : σ.length = sl.length) (h2 : ∀ (i : Nat) (d : D), sl[i]? = some (some d) → d = .ref p ∧ σ[i]? = some (some (.ref p))) :
    Holds ⟨fun _ => none, fun _ => none⟩ (upd (fun _ => none) q (.lst (ns.map V.int))) ⟨sl, [(p, .lst [.lst (ns.map D.int), .int 0, .int 0, .int 0])], []⟩ σ (upd (upd H q (.lst (ns.map V.int))) p (.lst [.ref q, .int 0, .int 0, .int 0])) := by
  have hpq : p ≠ q := fun e => by
    rw [e, upd_same] at hp; cases hp
  refine ⟨(fun _ _ z => nomatch z), fun b o e => ?_, (fun _ _ z => nomatch z), (fun _ _ z => nomatch z), fun _ _ _ => .inr (.inl rfl), h1, fun i d e => ?_, ⟨by simp, fun z hz => ?_⟩, (fun _ z => nomatch z)⟩
  · by_cases hb : b = q
    · subst hb
      rw [upd_same] at e
      rw [upd_ne hpq.symm, upd_same]
      exact e
    · rw [upd_ne hb] at e; cases e
  · obtain ⟨rfl, e2⟩ := h2 i d e
    exact ⟨_, e2, .ref p⟩
  · have : z = (p, .lst [.lst (ns.map D.int), .int 0, .int 0, .int 0]) := by simpa using hz
    subst this
    refine ⟨rfl, upd_ne hpq, _, upd_same, .lst (.cons ?_ (.cons (.int 0) (.cons (.int 0) (.cons (.int 0) .nil))))⟩
    refine .lst upd_same (by simp) fun i v d e1 e2 => ?_
    rw [List.getElem?_map] at e1 e2
    obtain ⟨n, hn, rfl⟩ := Option.map_eq_some_iff.mp e1
    rw [hn] at e2
    cases e2
    exact .int n
end DL

/-! The D layer, part 10: plain data as data of the library: compared, sorted. -/
namespace DL
open PySem PySem.Spec PyProof.Rows L2 PySem.W
mutual
def dat : D → PyData
  | .non => .none
  | .bl b => .bool b
  | .int i => .int i
  | .str x => .str x
  | .tup ds => .tuple (datAll ds)
  | .lst ds => .list (datAll ds)
  | .ref _ => .dict []
  | .ty _ => .dict []
  | .dK _ => .dict []
  | .dT _ => .dict []
  | .st _ => .dict []
  | .ins _ _ => .dict []
def datAll : List D → List PyData
  | [] => []
  | d :: ds => dat d :: datAll ds
end
theorem datAll_map (ds : List D) : datAll ds = ds.map dat := by
  induction ds with
  | nil => rfl
  | cons d ds ih => show dat d :: datAll ds = dat d :: ds.map dat; rw [ih]
theorem alikeAll_mem : ∀ {xs : List PyData}, alikeAll xs xs = true → ∀ x ∈ xs, alike x x = true
  | [], _, x, h => by cases h
  | y :: xs, h, x, hx => by
    obtain ⟨h1, h2⟩ := alike_all_cons h
    rcases List.mem_cons.mp hx with rfl | hx
    · exact h1
    · exact alikeAll_mem h2 x hx
theorem readsAll_of {h : Heap} : ∀ {us : List Value} {ds : List D}, us.length = ds.length → (∀ (i : Nat) u d, us[i]? = some u → ds[i]? = some d → ∃ as, Reads h u (dat d) as) → ∃ as, ReadsAll h us (datAll ds) as
  | [], [], _, _ => ⟨[], .nil⟩
  | [], _ :: _, e, _ => by cases e
  | _ :: _, [], e, _ => by cases e
  | u :: us, d :: ds, e, q => by
    obtain ⟨as, r⟩ := q 0 u d rfl rfl
    obtain ⟨bs, rs⟩ := readsAll_of (us := us) (ds := ds) (by simpa using e) (fun i x y a b => q (i + 1) x y (by simpa using a) (by simpa using b))
    exact ⟨as ++ bs, .cons r rs⟩
theorem vals_get {xs : List V} {us : List Value} (r : Vals xs us) : ∀ (i : Nat) u, us[i]? = some u → ∃ x, xs[i]? = some x ∧ RelV x u := by
  induction r with
  | nil => exact fun i u h => by simp at h
  | cons a t ih =>
    intro i u h
    cases i with
    | zero => cases h; exact ⟨_, rfl, a⟩
    | succ i => exact ih i u h
/-- what stands for data reads as it -/
theorem Rep.reads {P : Program} {w : World} {G H : Hp} {h : Heap} (sg : Same G H) (hk : HOk P w H h) {v : V} {d : D} (r : Rep G v d) : ∀ u, RelV v u → alike (dat d) (dat d) = true → ∃ as, Reads h u (dat d) as := by
  induction r with
  | non => exact fun u ru _ => by cases ru; exact ⟨_, .none⟩
  | bl b => exact fun u ru _ => by cases ru; exact ⟨_, .bool b⟩
  | int i => exact fun u ru _ => by obtain ⟨t, rfl⟩ := ru; exact ⟨_, .int i t⟩
  | str x => exact fun u ru _ => by obtain ⟨t, rfl⟩ := ru; exact ⟨_, .str x t⟩
  | ref p => exact fun u ru z => by simp [dat, alike] at z
  | ty n => exact fun u ru z => by simp [dat, alike] at z
  | @tup p vs ds hg hl _ ih =>
    intro u ru z
    cases ru
    obtain ⟨_, its, rv, o, ho, hc, n, hd⟩ := hk _ _ (sg _ _ hg)
    have z2 : alikeAll (datAll ds) (datAll ds) = true := by simpa [dat, alike] using z
    obtain ⟨as, rs⟩ := readsAll_of (us := its) (ds := ds) (by rw [← rv.length, hl]) fun i u d a b => by
      obtain ⟨x, e1, e2⟩ := vals_get rv i u a
      refine ih i x d e1 b u e2 (alikeAll_mem z2 _ ?_)
      rw [datAll_map]
      exact List.mem_map_of_mem (List.mem_of_getElem? b)
    exact ⟨as, .tuple ho hc hd (by simpa using rs)⟩
  | @lst p vs ds hg hl _ ih =>
    intro u ru z
    cases ru
    obtain ⟨_, its, n, rv, ho⟩ := hk _ _ (sg _ _ hg)
    have z2 : alikeAll (datAll ds) (datAll ds) = true := by simpa [dat, alike] using z
    obtain ⟨as, rs⟩ := readsAll_of (us := its) (ds := ds) (by rw [← rv.length, hl]) fun i u d a b => by
      obtain ⟨x, e1, e2⟩ := vals_get rv i u a
      refine ih i x d e1 b u e2 (alikeAll_mem z2 _ ?_)
      rw [datAll_map]
      exact List.mem_map_of_mem (List.mem_of_getElem? b)
    exact ⟨_, .list ho rfl rfl (by simpa using rs)⟩
/-! ### sorted -/
theorem each_reads {P : Program} {w : World} {G H : Hp} {h : Heap} (sg : Same G H) (hk : HOk P w H h) {xs : List V} {its : List Value} {ds : List D} (hal : ∀ d ∈ ds, alike (dat d) (dat d) = true) (rv : Vals xs its) (r : Reps G xs ds) : EachIs (fun u (b : V × D) => ∃ as, Reads h u (dat b.2) as) its (xs.zip ds) := by
  induction rv generalizing ds with
  | nil => exact .nil
  | cons a t ih =>
    cases ds with
    | nil => have := r.1; simp at this
    | cons d ds => exact .cons (r.head.reads sg hk _ a (hal d List.mem_cons_self)) (ih (fun d hd => hal d (List.mem_cons_of_mem _ hd)) r.tail)
theorem each_of {G : Hp} {P : Program} {w : World} {xs : List V} {its : List Value} {ds : List D} (rv : Vals xs its) (r : Reps G xs ds) : EachIs (fun u (b : V × D) => RelV b.1 u ∧ Rep G b.1 b.2) its (xs.zip ds) := by
  induction rv generalizing ds with
  | nil => exact .nil
  | cons a t ih =>
    cases ds with
    | nil => have := r.1; simp at this
    | cons d ds => exact .cons ⟨a, r.head⟩ (ih r.tail)
theorem each_vals {G : Hp} {its : List Value} {bs : List (V × D)} (e : EachIs (fun u (b : V × D) => RelV b.1 u ∧ Rep G b.1 b.2) its bs) : Vals (bs.map (·.1)) its ∧ Reps G (bs.map (·.1)) (bs.map (·.2)) := by
  induction e with
  | nil => exact ⟨.nil, Reps.nil⟩
  | cons a t ih => exact ⟨.cons a.1 ih.1, .cons a.2 ih.2⟩
def leD (d e : D) : Bool := dataLe false dat d e
section
variable {X : Cx} {F : Fr} {Γ : DL.Env} {sl : List (Option D)} {M R : Mem} {Q : D → DL.Env → Prop}
theorem call_sortedD : CallR X (.builtin "sorted") (fun vs H Q => ∃ (a : Addr) (xs : List V) (ds : List D) (G : Hp), vs = [.ref a] ∧ SqL X.K H a xs ∧ Reps G xs ds ∧ Same G H ∧ AllAlike (ds.map dat) ∧ Sortable (ds.map dat) ∧ (∀ d ∈ ds, X.A.units + 2 + (dat d).depth < cLine) ∧
    ∀ p ys, H p = none → Reps G ys (ds.mergeSort leD) → Q (.ref p) (upd H p (.lst ys))) := by
  intro pins s σ H vs us Q I r h
  obtain ⟨a, xs, ds, G, rfl, hs, rr, sg, hal, hsr, hu, q⟩ := h
  obtain ⟨its, rv, hl, hz⟩ := I.list hs
  rw [Vals.ref1 r]
  have e := each_of (P := X.prog) (w := X.w) rv rr
  have hen : (xs.zip ds).map (fun b => dat b.2) = ds.map dat := by
    have e1 : (xs.zip ds).map (fun b => dat b.2) = ((xs.zip ds).map Prod.snd).map dat := by rw [List.map_map]; rfl
    rw [e1, List.map_snd_zip (by rw [rr.1]; exact Nat.le_refl _)]
  refine sorted_data (bs := xs.zip ds) (enc := fun b => dat b.2) (R := fun u (b : V × D) => RelV b.1 u ∧ Rep G b.1 b.2) hl.isList e ?_ (by rw [hen]; exact hal) (by rw [hen]; exact hsr) (by rw [List.length_zip, rr.1, Nat.min_self, ← rr.1]; exact hz) (fun b hb => hu _ (List.of_mem_zip hb).2) fun out hlen eo => ?_
  · exact each_reads sg I.hok (fun d hd => hal _ (List.mem_map_of_mem hd) _ (List.mem_map_of_mem hd)) rv rr
  · obtain ⟨v1, r1⟩ := each_vals eo
    obtain ⟨ep, he'⟩ := PyProof.Rows.sortedAll_at s.heap its out.toArray
    have hlen2 : (((xs.zip ds).mergeSort (dataLe false fun b => dat b.2)).map (·.1)).length ≤ sizeLine := by
      rw [List.length_map, List.length_mergeSort, List.length_zip, rr.1, Nat.min_self, ← rr.1]; exact hz
    refine ⟨.ref _, upd H (s.heap.objs.size + 1) (.lst (((xs.zip ds).mergeSort (dataLe false fun b => dat b.2)).map (·.1))), I.laid (t' := s.toks) (fun _ _ => PyProof.Rows.sortedAll_old) (Nat.le_succ _) ⟨hlen2, out, ep, v1, he'⟩, rfl, q _ _ (I.hok.fresh (Nat.le_succ _)) ?_⟩
    have em : ((xs.zip ds).mergeSort (dataLe false fun b => dat b.2)).map (·.2) = ds.mergeSort leD := by
      have e2 := List.map_mergeSort (r := dataLe false fun b : V × D => dat b.2) (s := leD) (f := Prod.snd) (l := xs.zip ds) (fun a _ b _ => rfl)
      refine e2.trans ?_
      rw [List.map_snd_zip (by rw [rr.1]; exact Nat.le_refl _)]
    rw [em] at r1
    exact r1
end
end DL

/-! The D layer, part 11: a dict that is walked is locked: it stands among what is only read. -/
namespace DL
open PySem PySem.Spec PyProof.Rows L2

/-! ### at the state's level -/
section
variable {X : Cx} {H : Hp} {p : Addr} {u : HO}
theorem tUS_lock {st : Stmt} {E : Ends} {σ : L2.St} (h : H p = some u) (mu : Mut (some u))
    (k : ∀ od, tUS X st { nx := fun σ' H' => H' p = some (.frz od u) ∧ E.nx σ' (upd H' p u), rt := fun v H' => H' p = some (.frz od u) ∧ E.rt v (upd H' p u), bk := fun σ' H' => H' p = some (.frz od u) ∧ E.bk σ' (upd H' p u), ct := fun σ' H' => H' p = some (.frz od u) ∧ E.ct σ' (upd H' p u) } σ (upd H p (.frz od u))) : tUS X st E σ H := fun pins s I => by
  obtain ⟨od, I2⟩ := I.lock h mu
  have hn := I.nofrz h mu
  refine thn (k od pins s I2) fun f s1 q => ?_
  cases f with
  | next => obtain ⟨σ', H', I', a, b⟩ := q; exact ⟨σ', _, I'.unlock a hn, b⟩
  | brk => obtain ⟨σ', H', I', a, b⟩ := q; exact ⟨σ', _, I'.unlock a hn, b⟩
  | cont => obtain ⟨σ', H', I', a, b⟩ := q; exact ⟨σ', _, I'.unlock a hn, b⟩
  | ret v => obtain ⟨v', σ', H', I', r, a, b⟩ := q; exact ⟨v', σ', _, I'.unlock a hn, r, b⟩
theorem tU_lock {e : Expr} {σ : L2.St} {Q : VK} (h : H p = some u) (mu : Mut (some u))
    (k : ∀ od, tU X e σ (upd H p (.frz od u)) fun v H' => H' p = some (.frz od u) ∧ Q v (upd H' p u)) : tU X e σ H Q := fun pins s I => by
  obtain ⟨od, I2⟩ := I.lock h mu
  have hn := I.nofrz h mu
  refine thn (k od pins s I2) fun v s1 ⟨x, H', I', r, a, b⟩ => ?_
  exact ⟨x, _, I'.unlock a hn, r, b⟩
end
/-! ### at the level of data -/
/-- the thing at p is locked -/
class Lk (F : Fr) (p : Addr) : Prop where
  e : ∃ od u, F.B p = some (.frz od u)
theorem mutS {G : Hp} {o : HO} {c : D} (h : Shell G o c) : Mut (some o) := by
  cases h with
  | lst _ => trivial
  | dK _ _ => trivial
  | dT _ _ => trivial
  | ins _ _ => trivial
section
variable {F : Fr} {G : Hp} {σ : L2.St} {H : Hp} {sl : List (Option D)} {M R : Mem}
theorem Holds.locked {p : Addr} {c : D} {u : HO} {M' : Mem} {od : Obj} (hh : Holds F G ⟨sl, M, R⟩ σ H) (hp : M.Perm ((p, c) :: M')) (hu : H p = some u) (hs : Shell G u c) :
    Holds ⟨upd F.B p (.frz od u), F.G0⟩ G ⟨sl, M', (p, c) :: R⟩ σ (upd H p (.frz od u)) := by
  obtain ⟨hB, hG, _, _, _⟩ := hh.mem.at_ (p, c) (hp.symm.subset List.mem_cons_self)
  have nd := (hp.map (·.1)).nodup_iff.mp hh.mem.nd
  rw [List.map_cons, List.nodup_cons] at nd
  have hne : ∀ q ∈ M', q.1 ≠ p := fun q hq e => nd.1 (List.mem_map.mpr ⟨q, hq, e⟩)
  refine ⟨hh.g0, fun b o e => ?_, fun b o e => ?_, fun b o e => ?_, fun b o e => ?_, hh.len, hh.sl, ⟨nd.2, fun q hq => ?_⟩, fun q hq => ?_⟩
  · have : b ≠ p := fun z => by
      rw [z] at e
      have : G p = none := hG
      rw [this] at e; cases e
    rw [upd_ne this]; exact hh.gh _ _ e
  · by_cases hb : b = p
    · subst hb
      have e2 : upd F.B b (.frz od u) b = some o := e
      rw [upd_same] at e2; rw [upd_same]; exact e2
    · have e2 : upd F.B p (.frz od u) b = some o := e
      rw [upd_ne hb] at e2; rw [upd_ne hb]; exact hh.bh _ _ e2
  · have : b ≠ p := fun z => by
      rw [z] at e
      have h2 := hh.g0 _ _ e
      have : G p = none := hG
      rw [this] at h2; cases h2
    show upd F.B p (.frz od u) b = some o
    rw [upd_ne this]; exact hh.gb _ _ e
  · by_cases hb : b = p
    · subst hb
      have : G b = none := hG
      rw [this] at e; cases e
    · rcases hh.nw b o e with z | z | z
      · exact .inl z
      · exact .inr (.inl (by show upd F.B p _ b = none; rw [upd_ne hb]; exact z))
      · exact .inr (.inr z)
  · obtain ⟨a, b, o, c1, d⟩ := hh.mem.at_ q (hp.symm.subset (List.mem_cons_of_mem _ hq))
    refine ⟨?_, b, o, ?_, d⟩
    · show upd F.B p _ q.1 = none
      rw [upd_ne (hne q hq)]; exact a
    · rw [upd_ne (hne q hq)]; exact c1
  · rcases List.mem_cons.mp hq with rfl | hq
    · exact ⟨u, .inr ⟨od, upd_same⟩, hs⟩
    · obtain ⟨o, a, b⟩ := hh.rd q hq
      refine ⟨o, ?_, b⟩
      rcases a with a | ⟨z, a⟩
      · left
        show upd F.B p _ q.1 = some o
        rw [upd_ne (fun e => by rw [e] at a; have : F.B p = none := hB; rw [this] at a; cases a)]; exact a
      · right
        refine ⟨z, ?_⟩
        show upd F.B p _ q.1 = _
        rw [upd_ne (fun e => by rw [e] at a; have : F.B p = none := hB; rw [this] at a; cases a)]; exact a
theorem Holds.unlocked {F' : Fr} {p : Addr} {c : D} {u : HO} {od : Obj} (hR : ∀ q ∈ R, q.1 ≠ p) (hB : F.B p = none) (hg : Same F.G0 F.B) (hF : F' = ⟨upd F.B p (.frz od u), F.G0⟩) (hh : Holds F' G ⟨sl, M, (p, c) :: R⟩ σ H) : Holds F G ⟨sl, (p, c) :: M, R⟩ σ (upd H p u) ∧ H p = some (.frz od u) := by
  subst hF
  have hHp : H p = some (.frz od u) := hh.bh p _ upd_same
  have hG0 : F.G0 p = none := hg.free hB
  have hGp : G p = none := by
    cases e : G p with
    | none => rfl
    | some o =>
      rcases hh.nw p o e with z | z | ⟨vs, z⟩
      · have z2 : F.G0 p = some o := z
        rw [hG0] at z2; cases z2
      · have z2 : upd F.B p (.frz od u) p = none := z
        rw [upd_same] at z2; cases z2
      · have := hh.gh _ _ e
        rw [hHp, z] at this; cases this
  have hsh : Shell G u c := by
    obtain ⟨o, a, b⟩ := hh.rd (p, c) List.mem_cons_self
    have e : upd F.B p (.frz od u) p = some (.frz od u) := upd_same
    rcases a with a | ⟨z, a⟩
    · have a2 : upd F.B p (.frz od u) p = some o := a
      rw [e] at a2; cases a2; cases b
    · have a2 : upd F.B p (.frz od u) p = some (.frz z o) := a
      rw [e] at a2; cases a2; exact b
  have hne : ∀ q ∈ M, q.1 ≠ p := fun q hq e => by
    obtain ⟨a, _⟩ := hh.mem.at_ q hq
    have a2 : upd F.B p (.frz od u) q.1 = none := a
    rw [e, upd_same] at a2; cases a2
  refine ⟨⟨hh.g0, fun b o e => ?_, fun b o e => ?_, hg, fun b o e => ?_, hh.len, hh.sl, ⟨?_, fun q hq => ?_⟩, fun q hq => ?_⟩, hHp⟩
  · rw [upd_ne (fun z => by rw [z, hGp] at e; cases e)]; exact hh.gh _ _ e
  · have hb : b ≠ p := fun z => by rw [z, hB] at e; cases e
    rw [upd_ne hb]
    exact hh.bh b o (by show upd F.B p _ b = some o; rw [upd_ne hb]; exact e)
  · have hb : b ≠ p := fun z => by rw [z, hGp] at e; cases e
    rcases hh.nw b o e with z | z | z
    · exact .inl z
    · have z2 : upd F.B p (.frz od u) b = none := z
      rw [upd_ne hb] at z2; exact .inr (.inl z2)
    · exact .inr (.inr z)
  · rw [List.map_cons, List.nodup_cons]
    refine ⟨fun hm => ?_, hh.mem.nd⟩
    obtain ⟨q, hq, e⟩ := List.mem_map.mp hm
    exact hne q hq e
  · rcases List.mem_cons.mp hq with rfl | hq
    · exact ⟨hB, hGp, u, upd_same, hsh⟩
    · obtain ⟨a, b, o, c1, d⟩ := hh.mem.at_ q hq
      have a2 : upd F.B p (.frz od u) q.1 = none := a
      rw [upd_ne (hne q hq)] at a2
      exact ⟨a2, b, o, by rw [upd_ne (hne q hq)]; exact c1, d⟩
  · obtain ⟨o, a, b⟩ := hh.rd q (List.mem_cons_of_mem _ hq)
    refine ⟨o, ?_, b⟩
    have e := hR q hq
    rcases a with a | ⟨z, a⟩
    · have a2 : upd F.B p (.frz od u) q.1 = some o := a
      rw [upd_ne e] at a2; exact .inl a2
    · have a2 : upd F.B p (.frz od u) q.1 = some (.frz z o) := a
      rw [upd_ne e] at a2; exact .inr ⟨z, a2⟩
end
section
variable {X : Cx} {F : Fr} {sl : List (Option D)} {M M' R : Mem} {p : Addr} {c : D} {k : Nat}
def Out.lk (O : Out) (p : Addr) (c : D) (R : Mem) : Out := { nx := fun Γ => ∃ sl1 M1, Γ = ⟨sl1, M1, (p, c) :: R⟩ ∧ O.nx ⟨sl1, (p, c) :: M1, R⟩, rt := fun d Γ => ∃ sl1 M1, Γ = ⟨sl1, M1, (p, c) :: R⟩ ∧ O.rt d ⟨sl1, (p, c) :: M1, R⟩, bk := fun Γ => ∃ sl1 M1, Γ = ⟨sl1, M1, (p, c) :: R⟩ ∧ O.bk ⟨sl1, (p, c) :: M1, R⟩, ct := fun Γ => ∃ sl1 M1, Γ = ⟨sl1, M1, (p, c) :: R⟩ ∧ O.ct ⟨sl1, (p, c) :: M1, R⟩ }
theorem ws_lock {st : Stmt} {O : Out} (p : Addr) [a : At M p c k] [t : Take M k (p, c) M'] (h : ∀ F' : Fr, Lk F' p → WS X F' st ⟨sl, M', (p, c) :: R⟩ (O.lk p c R)) : WS X F st ⟨sl, M, R⟩ O := fun G σ H hh E hE => by
  obtain ⟨hB, hG, u, hu, hs⟩ := hh.mem.at_ (p, c) (List.mem_of_getElem? a.e)
  have hR : ∀ q ∈ R, q.1 ≠ p := fun q hq e => by
    obtain ⟨o, z, _⟩ := hh.rd q hq
    rw [e] at z
    have hB2 : F.B p = none := hB
    rcases z with z | ⟨z1, z⟩ <;> rw [hB2] at z <;> cases z
  refine tUS_lock hu (mutS hs) fun od => h ⟨upd F.B p (.frz od u), F.G0⟩ ⟨od, u, upd_same⟩ G σ _ (hh.locked t.perm hu hs) _ ⟨?_, ?_, ?_, ?_⟩
  · rintro Γ' G' σ' H' ⟨sl1, M1, rfl, q⟩ sg h'
    obtain ⟨h2, e2⟩ := Holds.unlocked hR hB hh.gb rfl h'
    exact ⟨e2, hE.nx _ _ _ _ q sg h2⟩
  · rintro d Γ' G' σ' v H' ⟨sl1, M1, rfl, q⟩ sg h' rv
    obtain ⟨h2, e2⟩ := Holds.unlocked hR hB hh.gb rfl h'
    exact ⟨e2, hE.rt _ _ _ _ _ _ q sg h2 rv⟩
  · rintro Γ' G' σ' H' ⟨sl1, M1, rfl, q⟩ sg h'
    obtain ⟨h2, e2⟩ := Holds.unlocked hR hB hh.gb rfl h'
    exact ⟨e2, hE.bk _ _ _ _ q sg h2⟩
  · rintro Γ' G' σ' H' ⟨sl1, M1, rfl, q⟩ sg h'
    obtain ⟨h2, e2⟩ := Holds.unlocked hR hB hh.gb rfl h'
    exact ⟨e2, hE.ct _ _ _ _ q sg h2⟩
theorem we_lock {e : Expr} {Q : D → DL.Env → Prop} (p : Addr) [a : At M p c k] [t : Take M k (p, c) M'] (h : ∀ F' : Fr, Lk F' p → WE X F' e ⟨sl, M', (p, c) :: R⟩ fun d Γ => ∃ sl1 M1, Γ = ⟨sl1, M1, (p, c) :: R⟩ ∧ Q d ⟨sl1, (p, c) :: M1, R⟩) : WE X F e ⟨sl, M, R⟩ Q := fun G σ H hh E hE => by
  obtain ⟨hB, hG, u, hu, hs⟩ := hh.mem.at_ (p, c) (List.mem_of_getElem? a.e)
  have hR : ∀ q ∈ R, q.1 ≠ p := fun q hq e => by
    obtain ⟨o, z, _⟩ := hh.rd q hq
    rw [e] at z
    have hB2 : F.B p = none := hB
    rcases z with z | ⟨z1, z⟩ <;> rw [hB2] at z <;> cases z
  refine tU_lock hu (mutS hs) fun od => h ⟨upd F.B p (.frz od u), F.G0⟩ ⟨od, u, upd_same⟩ G σ _ (hh.locked t.perm hu hs) _ ?_
  rintro d Γ' G' v H' ⟨sl1, M1, rfl, q⟩ sg h' rv
  obtain ⟨h2, e2⟩ := Holds.unlocked hR hB hh.gb rfl h'
  exact ⟨e2, hE _ _ _ _ _ q sg h2 rv⟩
/-! ### the walk -/
theorem rep_kV {G : Hp} (k : Key) : Rep G (kV k) (kD k) := by
  cases k with
  | inl i => exact .int i
  | inr x => exact .str x
theorem Holds.lkK {G : Hp} {σ : L2.St} {H : Hp} {kds : List (Key × D)} (lk : Lk F p) (hh : Holds F G ⟨sl, M, R⟩ σ H) (m : (p, D.dK kds) ∈ R) : ∃ od kvs, H p = some (.frz od (.dK kvs)) ∧ kvs.map (·.1) = kds.map (·.1) ∧ Reps G (kvs.map (·.2)) (kds.map (·.2)) := by
  obtain ⟨od, u, e⟩ := lk.e
  obtain ⟨o, a, b⟩ := hh.rd _ m
  have ho : o = u := by
    rcases a with a | ⟨z, a⟩
    · have a2 : F.B p = some o := a
      rw [e] at a2; cases a2; cases b
    · have a2 : F.B p = some (.frz z o) := a
      rw [e] at a2; cases a2; rfl
  subst ho
  obtain ⟨kvs, rfl, e1, e2⟩ := b.dK_inv
  exact ⟨od, kvs, hh.bh _ _ e, e1, e2⟩
theorem Holds.lkT {G : Hp} {σ : L2.St} {H : Hp} {kds : List (List Key × D)} (lk : Lk F p) (hh : Holds F G ⟨sl, M, R⟩ σ H) (m : (p, D.dT kds) ∈ R) : ∃ od kvs, H p = some (.frz od (.dT kvs)) ∧ kvs.map (·.1) = kds.map (·.1) ∧ Reps G (kvs.map (·.2)) (kds.map (·.2)) := by
  obtain ⟨od, u, e⟩ := lk.e
  obtain ⟨o, a, b⟩ := hh.rd _ m
  have ho : o = u := by
    rcases a with a | ⟨z, a⟩
    · have a2 : F.B p = some o := a
      rw [e] at a2; cases a2; cases b
    · have a2 : F.B p = some (.frz z o) := a
      rw [e] at a2; cases a2; rfl
  subst ho
  obtain ⟨kvs, rfl, e1, e2⟩ := b.dT_inv
  exact ⟨od, kvs, hh.bh _ _ e, e1, e2⟩
variable {K : List D → (DL.Env → Prop) → DL.Env → Prop} {tg iter : Expr}
/-- for k in d, d locked -/
theorem wiv_keys {kds : List (Key × D)} {j : Nat} [lk : Lk F p] [r : At R p (.dK kds) j] (h : K (kds.map fun kd => kD kd.1) (fun Γ' => Γ'.R = R) ⟨sl, M, R⟩) : WIV X F tg (.ref p) ⟨sl, M, R⟩ K := fun G σ H x hh rx Q hQ pins s v I rv => by
  cases rx
  cases rv
  have m := List.mem_of_getElem? r.e
  obtain ⟨od, kvs, hd, ek, er⟩ := hh.lkK lk m
  obtain ⟨hs, hgd, hx, es, ep, vs, hdt, hsz, kv, hm⟩ := I.frzK hd
  refine iter_keys hs hgd hx hdt (pi_one (tk := s.toks) I _ (turn_keys (d := p) (o := od) (kvs := kvs) _ hdt) ⟨_, Heap.get?_push_size _ rfl, rfl, ?_⟩ (hQ _ _ _ G H _ h (Same.refl G) hh ?_))
  · rw [hsz] <;> rfl
  · intro Γ' G' σ' H' sg h' st
    obtain ⟨sl', M1, R'⟩ := Γ'
    have st2 : R' = R := st
    subst st2
    obtain ⟨od', kvs', hd', ek', _⟩ := h'.lkK lk m
    have hd2 : H' p = some (.frz od (.dK kvs)) := by
      obtain ⟨o1, u1, eB⟩ := lk.e
      have q1 := hh.bh _ _ eB
      have q2 := h'.bh _ _ eB
      rw [hd] at q1; rw [q2, ← q1]
    have el : kvs.length = kds.length := by
      have := congrArg List.length ek
      simpa using this
    refine ⟨⟨hd2, by rw [List.length_map, el]; exact Nat.le_refl _⟩, fun i y hy => ?_⟩
    have hi := (List.getElem?_eq_some_iff.mp hy).1
    rw [List.length_map] at hi
    refine ⟨⟨hd2, by rw [el]; exact hi⟩, fun w H'' ⟨e1, k1, v1, e2, e3⟩ => ⟨G', Same.refl G', by rw [e1]; exact h', ?_⟩⟩
    have e4 : (kvs.map (·.1))[i]? = some k1 := by rw [List.getElem?_map, e2]; rfl
    rw [ek, List.getElem?_map] at e4
    rw [List.getElem?_map] at hy
    obtain ⟨kd, f1, f2⟩ := Option.map_eq_some_iff.mp e4
    rw [f1] at hy
    cases hy
    subst f2
    rw [e3]
    exact rep_kV _
theorem Holds.seeTup {G : Hp} {σ : L2.St} {H : Hp} {Γ : DL.Env} {q : Addr} {vs : List V} (hh : Holds F G Γ σ H) (hq : H q = some (.tup vs)) : ∃ G2, Same G G2 ∧ Holds F G2 Γ σ H ∧ G2 q = some (.tup vs) := by
  cases e : G q with
  | some o =>
    have := hh.gh _ _ e
    rw [hq] at this; cases this
    exact ⟨G, Same.refl G, hh, e⟩
  | none =>
    have sg : Same G (upd G q (.tup vs)) := fun b u e' => by rw [upd_ne (ne_of_none e' e)]; exact e'
    refine ⟨upd G q (.tup vs), sg, ⟨hh.g0.trans sg, fun b o e' => ?_, hh.bh, hh.gb, fun b o e' => ?_, hh.len, fun i d e' => ?_, ⟨hh.mem.nd, fun z hz => ?_⟩, fun z hz => ?_⟩, upd_same⟩
    · by_cases hb : b = q
      · subst hb; rw [upd_same] at e'; rw [hq]; exact e'
      · rw [upd_ne hb] at e'; exact hh.gh _ _ e'
    · by_cases hb : b = q
      · subst hb; rw [upd_same] at e'; cases e'; exact .inr (.inr ⟨_, rfl⟩)
      · rw [upd_ne hb] at e'; exact hh.nw _ _ e'
    · obtain ⟨v, a, b⟩ := hh.sl i d e'
      exact ⟨v, a, b.mono sg⟩
    · obtain ⟨a, b, o, c, d⟩ := hh.mem.at_ z hz
      refine ⟨a, ?_, o, c, d.mono sg⟩
      rw [upd_ne (fun z2 => by rw [z2, hq] at c; cases c; exact d.notT.elim)]; exact b
    · obtain ⟨o, a, b⟩ := hh.rd z hz
      exact ⟨o, a, b.mono sg⟩
theorem reps_kV {G : Hp} (k : List Key) : Reps G (k.map kV) (k.map kD) := by
  induction k with
  | nil => exact Reps.nil
  | cons a k ih => exact .cons (rep_kV a) ih
theorem wiv_keysT {kds : List (List Key × D)} {j : Nat} [lk : Lk F p] [r : At R p (.dT kds) j] (h : K (kds.map fun kd => .tup (kd.1.map kD)) (fun Γ' => Γ'.R = R) ⟨sl, M, R⟩) : WIV X F tg (.ref p) ⟨sl, M, R⟩ K := fun G σ H x hh rx Q hQ pins s v I rv => by
  cases rx
  cases rv
  have m := List.mem_of_getElem? r.e
  obtain ⟨od, kvs, hd, ek, er⟩ := hh.lkT lk m
  obtain ⟨hs, hgd, hx, es, ep, hdt, hsz, ent⟩ := I.frzT hd
  refine iter_keys hs hgd hx hdt (pi_one (tk := s.toks) I _ (turn_keysT (d := p) (o := od) (kvs := kvs) _ hdt) ⟨_, Heap.get?_push_size _ rfl, rfl, ?_⟩ (hQ _ _ _ G H _ h (Same.refl G) hh ?_))
  · rw [hsz] <;> rfl
  · intro Γ' G' σ' H' sg h' st
    obtain ⟨sl', M1, R'⟩ := Γ'
    have st2 : R' = R := st
    subst st2
    have hd2 : H' p = some (.frz od (.dT kvs)) := by
      obtain ⟨o1, u1, eB⟩ := lk.e
      have q1 := hh.bh _ _ eB
      have q2 := h'.bh _ _ eB
      rw [hd] at q1; rw [q2, ← q1]
    have el : kvs.length = kds.length := by
      have := congrArg List.length ek
      simpa using this
    refine ⟨⟨hd2, by rw [List.length_map, el]; exact Nat.le_refl _⟩, fun i y hy => ?_⟩
    have hi := (List.getElem?_eq_some_iff.mp hy).1
    rw [List.length_map] at hi
    refine ⟨⟨hd2, by rw [el]; exact hi⟩, fun w H'' ⟨e1, k1, v1, q, e2, e3, e5⟩ => ?_⟩
    obtain ⟨G2, sg2, h2, eq⟩ := h'.seeTup e5
    refine ⟨G2, sg2, by rw [e1]; exact h2, ?_⟩
    have e4 : (kvs.map (·.1))[i]? = some k1 := by rw [List.getElem?_map, e2]; rfl
    rw [ek, List.getElem?_map] at e4
    rw [List.getElem?_map] at hy
    obtain ⟨kd, f1, f2⟩ := Option.map_eq_some_iff.mp e4
    rw [f1] at hy
    cases hy
    subst f2
    rw [e3]
    have rr := reps_kV (G := G2) kd.1
    exact .tup eq rr.1 rr.2
/-- for k, v in d.items(), d locked -/
def WItems (F : Fr) (d : D) (Γ : DL.Env) (K : List D → (DL.Env → Prop) → DL.Env → Prop) : Prop := ∃ p kds, d = .ref p ∧ Lk F p ∧ (p, D.dK kds) ∈ Γ.R ∧ K (kds.map fun kd => .tup [kD kd.1, kd.2]) (fun Γ' => Γ'.R = Γ.R) Γ
theorem witems_go {kds : List (Key × D)} {j : Nat} [lk : Lk F p] [r : At R p (.dK kds) j] (h : K (kds.map fun kd => .tup [kD kd.1, kd.2]) (fun Γ' => Γ'.R = R) ⟨sl, M, R⟩) : WItems F (.ref p) ⟨sl, M, R⟩ K := ⟨p, kds, rfl, lk, List.mem_of_getElem? r.e, h⟩
theorem wi_items {Γ : DL.Env} {e : Expr} {elts : List Expr} {kk : Nat} {tpos apos cpos : Pos} (hb : attributeBase e "items" X.env (eval e X.env) = eval e X.env) (hline : (apos.endLine == cpos.line) = true) (h : WE X F e Γ fun d Γ1 => WItems F d Γ1 K) : WI X F (.Tuple elts kk tpos) (.Call (.Attribute e "items" apos) [] [] cpos) Γ K := fun G σ H hh R hR pins s I => by
  refine (pi_items pe_U hb hline).run pins s σ H R I ?_
  refine h G σ H hh _ fun d Γ1 G1 v H1 ⟨p, kds, ed, lk, m, q⟩ sg h1 rv => ?_
  subst ed
  cases rv
  obtain ⟨sl1, M1, R1⟩ := Γ1
  obtain ⟨od, kvs, hd, ek, er⟩ := h1.lkK lk m
  refine ⟨p, od, kvs, rfl, hd, hR _ _ _ G1 H1 _ q sg h1 ?_⟩
  intro Γ' G' σ' H' sg' h' st
  obtain ⟨sl', M2, R'⟩ := Γ'
  have st2 : R' = R1 := st
  subst st2
  have hd2 : H' p = some (.frz od (.dK kvs)) := by
    obtain ⟨o1, u1, eB⟩ := lk.e
    have q1 := h1.bh _ _ eB
    have q2 := h'.bh _ _ eB
    rw [hd] at q1; rw [q2, ← q1]
  have el : kvs.length = kds.length := by
    have := congrArg List.length ek
    simpa using this
  refine ⟨⟨hd2, by rw [List.length_map, el]; exact Nat.le_refl _⟩, fun i y hy => ?_⟩
  have hi := (List.getElem?_eq_some_iff.mp hy).1
  rw [List.length_map] at hi
  refine ⟨⟨hd2, by rw [el]; exact hi⟩, fun w H'' ⟨T, k1, v1, e2, e3, e5, e6⟩ => ?_⟩
  obtain ⟨sg2, h2⟩ := h'.newSh (o := .tup [kV k1, v1]) e5
  refine ⟨_, sg2, by rw [e6]; exact h2, ?_⟩
  have e4 : (kvs.map (·.1))[i]? = some k1 := by rw [List.getElem?_map, e2]; rfl
  have e7 : (kvs.map (·.2))[i]? = some v1 := by rw [List.getElem?_map, e2]; rfl
  rw [ek, List.getElem?_map] at e4
  rw [List.getElem?_map] at hy
  obtain ⟨kd, f1, f2⟩ := Option.map_eq_some_iff.mp e4
  rw [f1] at hy
  cases hy
  subst f2
  rw [e3]
  have e8 : (kds.map (·.2))[i]? = some kd.2 := by rw [List.getElem?_map, f1]; rfl
  have r1 : Rep G1 v1 kd.2 := er.2 i v1 kd.2 e7 e8
  have rr : Reps (upd G' T (.tup [kV kd.1, v1])) [kV kd.1, v1] [kD kd.1, kd.2] := .cons (rep_kV _) (.cons (r1.mono (sg'.trans sg2)) .nil)
  exact .tup upd_same rr.1 rr.2
end
end DL

/-! The D layer, part 12: encodings of plain Lean values as data; sorted, in, < .. by the Lean values. -/
namespace DL
open PySem PySem.Spec PyProof.Rows L2 PySem.W PySem.SeqAt

/-! ### encodings -/
class DEq {α : Type} (f : α → D) (n : outParam Nat) : Prop where
  pl : ∀ a, (dat (f a)).plain = true
  ev : ∀ a b, PyData.eqv (dat (f a)) (dat (f b)) = true ↔ a = b
  dp : ∀ a, (dat (f a)).depth ≤ n
class DOrd {α : Type} (f : α → D) (lt : outParam (α → α → Bool)) (n : outParam Nat) : Prop extends DEq f n where
  al : ∀ a b, alike (dat (f a)) (dat (f b)) = true
  lt : ∀ a b, dataLt (dat (f a)) (dat (f b)) = lt a b
/-- what sorted asks of the items: no empty tuples -/
class DSrt {α : Type} (f : α → D) (P : outParam (α → Prop)) : Prop where
  sr : (∀ a, P a → ∃ x r, dat (f a) = .tuple (x :: r)) ∨ ∀ a, P a → dat (f a) ≠ .none ∧ ∀ xs, dat (f a) ≠ .tuple xs
/-- d is f's word for x -/
class EncAs {α : Type} (f : α → D) (d : D) (x : outParam α) : Prop where
  e : d = f x
instance EncAs.int {i : Int} : EncAs D.int (.int i) i := ⟨rfl⟩
instance EncAs.str {i : Str} : EncAs D.str (.str i) i := ⟨rfl⟩
def ltI (a b : Int) : Bool := decide (a < b)
def ltS (a b : Str) : Bool := decide (a.cps.toList < b.cps.toList)

instance DOrd.int : DOrd D.int ltI 0 where
  pl _ := rfl
  ev a b := by simp [dat, PyData.eqv]
  dp _ := Nat.le_refl _
  al a b := by simp [dat, alike]
  lt a b := dataLt_int a b
instance DOrd.str : DOrd D.str ltS 0 where
  pl _ := rfl
  ev a b := by simp [dat, PyData.eqv]
  dp _ := Nat.le_refl _
  al a b := by simp [dat, alike]
  lt a b := dataLt_str a b
instance DSrt.int : DSrt D.int (fun _ => True) := ⟨.inr fun a _ => ⟨by simp [dat], fun xs => by simp [dat]⟩⟩
instance DSrt.str : DSrt D.str (fun _ => True) := ⟨.inr fun a _ => ⟨by simp [dat], fun xs => by simp [dat]⟩⟩
section
variable {α β : Type} {f : α → D} {g : β → D} {lf : α → α → Bool} {lg : β → β → Bool} {n m : Nat}
/-- pairs -/
def ltP2 (lf : α → α → Bool) (lg : β → β → Bool) (p q : α × β) : Bool := lf p.1 q.1 || (!lf q.1 p.1 && lg p.2 q.2)
theorem DEq.pair (hf : DEq f n) (hg : DEq g m) : DEq (fun p : α × β => D.tup [f p.1, g p.2]) (max n m + 1) where
  pl p := by simp [dat, datAll, PyData.plain, PyData.plainAll, hf.pl, hg.pl]
  ev p q := by
    simp only [dat, datAll, PyData.eqv, PyData.eqvAll, Bool.and_true, Bool.and_eq_true, hf.ev, hg.ev]
    exact ⟨fun h => Prod.ext h.1 h.2, fun h => by rw [h]; exact ⟨rfl, rfl⟩⟩
  dp p := by
    have := hf.dp p.1; have := hg.dp p.2
    simp only [dat, datAll, PyData.depth, PyData.depthAll]; omega
theorem DOrd.irr (hf : DOrd f lf n) (a : α) : lf a a = false := by
  rw [← hf.lt]; exact lex_irrefl _
theorem DOrd.trans (hf : DOrd f lf n) {a b c : α} (h1 : lf a b = true) (h2 : lf b c = true) : lf a c = true := by
  rw [← hf.lt] at h1 h2 ⊢; exact lex_trans _ _ _ h1 h2
theorem DOrd.neg (hf : DOrd f lf n) {a b c : α} (h : lf a c = true) : lf a b = true ∨ lf b c = true := by
  rw [← hf.lt] at h ⊢; rw [← hf.lt]; exact lex_negTrans _ _ _ h
theorem DOrd.asym (hf : DOrd f lf n) {a b : α} (h : lf a b = true) : lf b a = false := by
  cases e : lf b a with
  | false => rfl
  | true => have := hf.trans h e; rw [hf.irr] at this; cases this
theorem DOrd.diff (hf : DOrd f lf n) {a b : α} (h : a ≠ b) : lf a b = true ∨ lf b a = true := by
  cases e1 : lf a b with
  | true => exact .inl rfl
  | false =>
    cases e2 : lf b a with
    | true => exact .inr rfl
    | false =>
      rw [← hf.lt] at e1 e2
      have e := lex_total _ _ e1 e2
      refine absurd ?_ h
      cases ev : PyData.eqv (dat (f a)) (dat (f b)) with
      | true => exact (hf.ev a b).mp ev
      | false =>
        have q := (toks_eqv _ _ (hf.al a b)).2 ev [] [.inl 0]
        rw [e, lex_irrefl, lex_pre] at q
        exact absurd q (by decide)
theorem DOrd.pair (hf : DOrd f lf n) (hg : DOrd g lg m) : DOrd (fun p : α × β => D.tup [f p.1, g p.2]) (ltP2 lf lg) (max n m + 1) where
  toDEq := DEq.pair hf.toDEq hg.toDEq
  al p q := by simp [dat, datAll, alike, alikeAll, hf.al, hg.al]
  lt p q := by
    show dataLt (.tuple [dat (f p.1), dat (g p.2)]) (.tuple [dat (f q.1), dat (g q.2)]) = _
    rw [dataLt_tuple]
    unfold ltP2
    cases e : PyData.eqv (dat (f p.1)) (dat (f q.1)) with
    | true =>
      rw [dataLt_all_yes (hf.al _ _) e]
      have e1 := (hf.ev _ _).mp e
      rw [e1, hf.irr]
      cases e2 : PyData.eqv (dat (g p.2)) (dat (g q.2)) with
      | true =>
        rw [dataLt_all_yes (hg.al _ _) e2, (hg.ev _ _).mp e2, hg.irr]
        exact lex_irrefl _
      | false =>
        rw [dataLt_all_no (hg.al _ _) e2, hg.lt]
        simp
    | false =>
      rw [dataLt_all_no (hf.al _ _) e, hf.lt]
      have ne : p.1 ≠ q.1 := fun z => by rw [(hf.ev _ _).mpr z] at e; cases e
      rcases hf.diff ne with z | z
      · rw [z]; rfl
      · rw [z, hf.asym z]; rfl
/-- tuples of one kind -/
def ltL (lf : α → α → Bool) : List α → List α → Bool
  | [], [] => false
  | [], _ :: _ => true
  | _ :: _, [] => false
  | x :: xs, y :: ys => lf x y || (!lf y x && ltL lf xs ys)
theorem DEq.tupl (hf : DEq f n) : DEq (fun l : List α => D.tup (l.map f)) (n + 1) where
  pl l := by
    simp only [dat, datAll_map, PyData.plain]
    induction l with
    | nil => rfl
    | cons a l ih => simp only [List.map_cons, PyData.plainAll, hf.pl, ih, Bool.and_self]
  ev l k := by
    simp only [dat, datAll_map, PyData.eqv]
    induction l generalizing k with
    | nil => cases k <;> simp [PyData.eqvAll]
    | cons a l ih =>
      cases k with
      | nil => simp [PyData.eqvAll]
      | cons b k => simp only [List.map_cons, PyData.eqvAll, Bool.and_eq_true, hf.ev, ih, List.cons.injEq]
  dp l := by
    simp only [dat, datAll_map, PyData.depth]
    induction l with
    | nil => simp [PyData.depthAll]
    | cons a l ih =>
      have := hf.dp a
      simp only [List.map_cons, PyData.depthAll]; omega
theorem DOrd.tupl (hf : DOrd f lf n) : DOrd (fun l : List α => D.tup (l.map f)) (ltL lf) (n + 1) where
  toDEq := DEq.tupl hf.toDEq
  al l k := by
    simp only [dat, datAll_map, alike]
    induction l generalizing k with
    | nil => cases k <;> simp [alikeAll]
    | cons a l ih =>
      cases k with
      | nil => simp [alikeAll]
      | cons b k => simp only [List.map_cons, alikeAll, hf.al, ih, Bool.and_self]
  lt l k := by
    simp only [dat, datAll_map]
    rw [dataLt_tuple]
    induction l generalizing k with
    | nil =>
      cases k with
      | nil => exact lex_irrefl _
      | cons b k =>
        simp only [List.map_cons, List.map_nil]
        rw [toks_all_cons]
        simp only [keyToksAll]
        rw [lex_diff (O := itemOrd) (by simp)]
        rfl
    | cons a l ih =>
      cases k with
      | nil =>
        simp only [List.map_cons, List.map_nil]
        rw [toks_all_cons]
        simp only [keyToksAll]
        rw [lex_diff (O := itemOrd) (by simp)]
        rfl
      | cons b k =>
        simp only [List.map_cons, ltL]
        cases e : PyData.eqv (dat (f a)) (dat (f b)) with
        | true =>
          have e1 := (hf.ev _ _).mp e
          subst e1
          rw [dataLt_all_yes (hf.al _ _) e, hf.irr]
          have := ih k
          simpa using this
        | false =>
          rw [dataLt_all_no (hf.al _ _) e, hf.lt]
          have ne : a ≠ b := fun z => by rw [(hf.ev _ _).mpr z] at e; cases e
          rcases hf.diff ne with z | z
          · rw [z]; rfl
          · rw [z, hf.asym z]; rfl
end
/-! ### sorting, by the Lean values -/
def srt {α : Type} (lt : α → α → Bool) (xs : List α) : List α := xs.mergeSort fun a b => !lt b a
theorem srt_perm {α : Type} {lt : α → α → Bool} {xs : List α} : (srt lt xs).Perm xs := List.mergeSort_perm _ _
theorem srt_len {α : Type} {lt : α → α → Bool} {xs : List α} : (srt lt xs).length = xs.length := List.length_mergeSort _
theorem mem_srt {α : Type} {lt : α → α → Bool} {xs : List α} {x : α} : x ∈ srt lt xs ↔ x ∈ xs := srt_perm.mem_iff
section
variable {α : Type} {f : α → D} {lf : α → α → Bool} {n : Nat}
theorem DOrd.srt_sorted (hf : DOrd f lf n) (xs : List α) : (srt lf xs).Pairwise fun a b => lf b a = false := by
  have := List.pairwise_mergeSort (le := fun a b => !lf b a) (fun a b c h1 h2 => by
    simp only [Bool.not_eq_true'] at h1 h2 ⊢
    cases e : lf c a with
    | false => rfl
    | true =>
      rcases hf.neg (b := b) e with z | z
      · rw [z] at h2; cases h2
      · rw [z] at h1; cases h1) (fun a b => by
    cases e : lf b a with
    | false => rfl
    | true => simp [hf.asym e]) xs
  exact this.imp fun h => by simpa using h
/-- sorted lists of the same items are one -/
theorem DOrd.uniq (hf : DOrd f lf n) {xs ys : List α} (p : xs.Perm ys) (h1 : xs.Pairwise fun a b => lf b a = false) (h2 : ys.Pairwise fun a b => lf b a = false) : xs = ys := by
  refine List.Perm.eq_of_pairwise (le := fun a b => lf b a = false) (fun a b _ _ e1 e2 => ?_) h1 h2 p
  apply Classical.byContradiction
  intro ne
  rcases hf.diff ne with z | z
  · rw [z] at e2; cases e2
  · rw [z] at e1; cases e1
theorem DOrd.srt_eq (hf : DOrd f lf n) {xs ys : List α} (p : xs.Perm ys) : srt lf xs = srt lf ys := hf.uniq ((srt_perm.trans p).trans srt_perm.symm) (hf.srt_sorted _) (hf.srt_sorted _)
theorem DOrd.srt_id (hf : DOrd f lf n) {xs : List α} (h : xs.Pairwise fun a b => lf b a = false) : srt lf xs = xs := hf.uniq srt_perm (hf.srt_sorted _) h
/-- strictly, where no item stands twice -/
theorem DOrd.srt_strict (hf : DOrd f lf n) {xs : List α} (nd : xs.Nodup) : (srt lf xs).Pairwise fun a b => lf a b = true := by
  have h1 := hf.srt_sorted xs
  have h2 : (srt lf xs).Pairwise fun a b => a ≠ b := srt_perm.nodup_iff.mpr nd
  exact (h1.and h2).imp fun ⟨a, b⟩ => by
    rcases hf.diff b with z | z
    · exact z
    · rw [z] at a; cases a
theorem DOrd.leD (hf : DOrd f lf n) (a b : α) : leD (f a) (f b) = !lf b a := by
  rw [← hf.lt]; rfl
theorem DOrd.sorts (hf : DOrd f lf n) (xs : List α) : (xs.map f).mergeSort DL.leD = (srt lf xs).map f :=
  (List.map_mergeSort (r := fun a b => !lf b a) (s := DL.leD) (f := f) (l := xs) (fun a _ b _ => (hf.leD a b).symm)).symm
end
/-! ### the rules -/
section
variable {X : Cx} {F : Fr} {Γ : DL.Env} {sl : List (Option D)} {M R : Mem} {Q : D → DL.Env → Prop}
theorem wc_sorted {α : Type} {f : α → D} {lt : α → α → Bool} {n : Nat} {P : α → Prop} {d : D} {xs : List α} [sd : SeeL M R d (xs.map f)] [hf : DOrd f lt n] [hs : DSrt f P] (hX : Std X) (hn : n ≤ 60) (hP : ∀ x ∈ xs, P x)
    (q : ∀ p, Q (.ref p) ⟨sl, (p, .lst ((srt lt xs).map f)) :: M, R⟩) : WC X F (.builtin "sorted") [d] ⟨sl, M, R⟩ Q := wc_of call_sortedD fun G σ H vs hh rr K hK => by
  obtain ⟨v, rfl, r⟩ := rr.one
  obtain ⟨p, us, rfl, hS, hr⟩ := hh.seeL (K := X.K) r sd.see
  have hu := hX.hu
  refine ⟨p, us, xs.map f, G, rfl, hS, hr, hh.gh, ?_, ?_, ?_, fun a ys ha hy => ?_⟩
  · intro x hx y hy
    rw [List.map_map] at hx hy
    obtain ⟨a, _, rfl⟩ := List.mem_map.mp hx
    obtain ⟨b, _, rfl⟩ := List.mem_map.mp hy
    exact hf.al a b
  · rcases hs.sr with z | z
    · refine .inl fun x hx => ?_
      rw [List.map_map] at hx
      obtain ⟨a, ha, rfl⟩ := List.mem_map.mp hx
      exact z a (hP a ha)
    · refine .inr fun x hx => ?_
      rw [List.map_map] at hx
      obtain ⟨a, ha, rfl⟩ := List.mem_map.mp hx
      exact z a (hP a ha)
  · intro x hx
    obtain ⟨a, _, rfl⟩ := List.mem_map.mp hx
    have := hf.dp a
    omega
  · rw [hf.sorts] at hy
    exact hK _ _ G _ _ (q a) (Same.refl G) (hh.newOwn ha (.lst hy)) (.ref a)
/-- x in a list, a tuple -/
theorem op_inData {neg : Bool} : OpR X (compareOp (if neg then .NotIn else .In)) (fun x y H Q => ∃ (G : Hp) (d : D) (p : Addr) (vs : List V) (ds : List D), Same G H ∧ Rep G x d ∧ y = .ref p ∧ (SqL X.K H p vs ∨ SqT X.K H p vs) ∧ Reps G vs ds ∧ (∀ e ∈ ds, (dat e).plain = true ∧ alike (dat e) (dat e) = true) ∧ (dat d).plain = true ∧ alike (dat d) (dat d) = true ∧ X.A.units + 1 + (dat d).depth < cLine ∧
    Q (.bl (if neg then !(ds.any fun e => PyData.eqv (dat e) (dat d)) else ds.any fun e => PyData.eqv (dat e) (dat d))) H) := by
  intro pins s σ H x y v u Q I rx ry h
  obtain ⟨G, d, p, vs, ds, sg, rd, rfl, hS, rr, hpl, hd, had, hu, q⟩ := h
  cases ry
  obtain ⟨bs, rb⟩ := rd.reads sg I.hok v rx had
  have hpa : PyData.plainAll (datAll ds) = true := by
    rw [datAll_map]
    clear rr q
    induction ds with
    | nil => rfl
    | cons e ds ih => simp only [List.map_cons, PyData.plainAll, (hpl e List.mem_cons_self).1, ih fun z hz => hpl z (List.mem_cons_of_mem _ hz), Bool.and_self]
  have hua : X.A.units + 1 + min (PyData.depthAll (datAll ds)) (dat d).depth < cLine := by omega
  have ea : ((datAll ds).any fun y => PyData.eqv y (dat d)) = ds.any fun e => PyData.eqv (dat e) (dat d) := by rw [datAll_map, List.any_map]; rfl
  have items : ∀ its : List Value, Vals vs its → ∃ as, ReadsAll s.heap its (datAll ds) as := fun its rv => by
    refine readsAll_of (by rw [← rv.length, rr.1]) fun i w e a b => ?_
    obtain ⟨z, e1, e2⟩ := vals_get rv i w a
    exact (rr.2 i z e e1 b).reads sg I.hok w e2 (hpl e (List.mem_of_getElem? b)).2
  rcases hS with hS | hS
  · obtain ⟨its, rv, pl, hz⟩ := I.list hS
    obtain ⟨o, ho, hc, n, hdt⟩ := pl.isList
    obtain ⟨as, ra⟩ := items its rv
    have rc : Reads s.heap (.ref p) (.list (datAll ds)) (p :: as) := .list ho hc hdt (by simpa using ra)
    cases neg with
    | false => exact in_list_data rc rb hpa hd hua ⟨.bl _, H, I, rfl, by rw [ea]; simpa using q⟩
    | true => exact notIn_list_data rc rb hpa hd hua ⟨.bl _, H, I, rfl, by rw [ea]; simpa using q⟩
  · obtain ⟨its, rv, pl, hz⟩ := I.tuple hS
    obtain ⟨o, ho, hc, n, hdt⟩ := pl
    obtain ⟨as, ra⟩ := items its rv
    have rc : Reads s.heap (.ref p) (.tuple (datAll ds)) as := .tuple ho hc hdt (by simpa using ra)
    cases neg with
    | false => exact in_tuple_data rc rb hpa hd hua ⟨.bl _, H, I, rfl, by rw [ea]; simpa using q⟩
    | true => exact notIn_tuple_data rc rb hpa hd hua ⟨.bl _, H, I, rfl, by rw [ea]; simpa using q⟩
theorem any_mem {α : Type} [DecidableEq α] {f : α → D} {n : Nat} (hf : DEq f n) (x : α) (xs : List α) : ((xs.map f).any fun e => PyData.eqv (dat e) (dat (f x))) = decide (x ∈ xs) := by
  rw [List.any_map, Bool.eq_iff_iff, List.any_eq_true, decide_eq_true_eq]
  constructor
  · rintro ⟨y, hy, e⟩
    have := (hf.ev y x).mp e
    rw [← this]; exact hy
  · exact fun h => ⟨x, h, (hf.ev x x).mpr rfl⟩
theorem wo_inD {α : Type} [DecidableEq α] {f : α → D} {lt : α → α → Bool} {n : Nat} {d1 d2 : D} {x : α} {xs : List α} [sd : SeeQ M R d2 (xs.map f)] [hf : DOrd f lt n] [en : EncAs f d1 x] (hX : Std X) (hn : n ≤ 60) (q : Q (.bl (decide (x ∈ xs))) ⟨sl, M, R⟩) : WO X F (compareOp .In) d1 d2 ⟨sl, M, R⟩ Q := by
  rw [en.e]
  refine wo_of (op_inData (neg := false)) fun G σ H v u hh r1 r2 K hK => ?_
  have hu := hX.hu
  have hdp := hf.dp x
  have h0 : ∃ (p : Addr) (vs : List V), u = .ref p ∧ (SqL X.K H p vs ∨ SqT X.K H p vs) ∧ Reps G vs (xs.map f) := by
    rcases sd.see with s | s
    · obtain ⟨p, vs, e, hS, hr⟩ := hh.seeL (K := X.K) r2 s
      exact ⟨p, vs, e, .inl hS, hr⟩
    · obtain ⟨p, vs, e, hS, hr⟩ := hh.seeT (K := X.K) r2 s
      exact ⟨p, vs, e, .inr hS, hr⟩
  obtain ⟨p, vs, e, hS, hr⟩ := h0
  refine ⟨G, f x, p, vs, xs.map f, hh.gh, r1, e, hS, hr, fun z hz => ?_, hf.pl x, hf.al x x, by omega, ?_⟩
  · obtain ⟨a, _, rfl⟩ := List.mem_map.mp hz
    exact ⟨hf.pl a, hf.al a a⟩
  · rw [any_mem hf.toDEq]
    exact hK.here hh q (.bl _)
theorem wo_ninD {α : Type} [DecidableEq α] {f : α → D} {lt : α → α → Bool} {n : Nat} {d1 d2 : D} {x : α} {xs : List α} [sd : SeeQ M R d2 (xs.map f)] [hf : DOrd f lt n] [en : EncAs f d1 x] (hX : Std X) (hn : n ≤ 60) (q : Q (.bl (!decide (x ∈ xs))) ⟨sl, M, R⟩) : WO X F (compareOp .NotIn) d1 d2 ⟨sl, M, R⟩ Q := by
  rw [en.e]
  refine wo_of (op_inData (neg := true)) fun G σ H v u hh r1 r2 K hK => ?_
  have hu := hX.hu
  have hdp := hf.dp x
  have h0 : ∃ (p : Addr) (vs : List V), u = .ref p ∧ (SqL X.K H p vs ∨ SqT X.K H p vs) ∧ Reps G vs (xs.map f) := by
    rcases sd.see with s | s
    · obtain ⟨p, vs, e, hS, hr⟩ := hh.seeL (K := X.K) r2 s
      exact ⟨p, vs, e, .inl hS, hr⟩
    · obtain ⟨p, vs, e, hS, hr⟩ := hh.seeT (K := X.K) r2 s
      exact ⟨p, vs, e, .inr hS, hr⟩
  obtain ⟨p, vs, e, hS, hr⟩ := h0
  refine ⟨G, f x, p, vs, xs.map f, hh.gh, r1, e, hS, hr, fun z hz => ?_, hf.pl x, hf.al x x, by omega, ?_⟩
  · obtain ⟨a, _, rfl⟩ := List.mem_map.mp hz
    exact ⟨hf.pl a, hf.al a a⟩
  · rw [any_mem hf.toDEq]
    exact hK.here hh q (.bl _)
end
end DL

/-! The D layer, part 13: sets of ints and texts, as lists of keys without repetition. -/
namespace DL
open PySem PySem.Spec PyProof.Rows L2

section
variable {κ : Type} [DecidableEq κ] {P : Program} {w : World} {knd : PySem.KeyKind P w κ} {h h' : Heap} {a : Addr} {ks : List κ}
/-- the key that a value stands for -/
noncomputable def keyV (knd : PySem.KeyKind P w κ) (v : Value) : Option κ := open Classical in if q : ∃ k, knd.is k v = true then some q.choose else none
theorem keyV_is {k : κ} {v : Value} (e : knd.is k v = true) : keyV knd v = some k := by
  unfold keyV
  have q : ∃ k, knd.is k v = true := ⟨k, e⟩
  rw [dif_pos q, knd.inj v _ _ q.choose_spec e]
theorem is_keyV {k : κ} {v : Value} (e : keyV knd v = some k) : knd.is k v = true := by
  unfold keyV at e
  split at e
  · rename_i q; cases e; exact q.choose_spec
  · cases e
/-- the set at a has just the keys ks -/
structure KSet (knd : PySem.KeyKind P w κ) (h : Heap) (a : Addr) (ks : List κ) : Prop where
  ex : ∃ o es ep t, (h.get? a = some o ∧ o.ExactSet ∧ o.data = .set es ep t) ∧ ElemsOf knd es.toList ∧ (es.toList.map fun e => keyV knd e.2).Perm (ks.map some) ∧ es.size < scanBound ∧ t.fits es.size = true ∧ Ris t.place.toList ∧ (w.params.followText "set-order" = true ∨ t.led = true)
  nd : ks.Nodup
theorem KSet.stay (m : KSet knd h a ks) (e : ∀ o, h.get? a = some o → h'.get? a = some o) : KSet knd h' a ks := by
  obtain ⟨⟨o, es, ep, t, ⟨h1, h2⟩, r⟩, nd⟩ := m
  exact ⟨⟨o, es, ep, t, ⟨e o h1, h2⟩, r⟩, nd⟩
theorem KSet.perm {ks' : List κ} (m : KSet knd h a ks) (p : ks'.Perm ks) : KSet knd h a ks' := by
  obtain ⟨⟨o, es, ep, t, r1, r2, r3, r4⟩, nd⟩ := m
  exact ⟨⟨o, es, ep, t, r1, r2, r3.trans (p.symm.map some), r4⟩, p.nodup_iff.mpr nd⟩
theorem keys_find {es : List (Int × Value)} (pk : (es.map fun e => keyV knd e.2).Perm (ks.map some)) {k : κ} : k ∈ ks ↔ ∃ e ∈ es, knd.is k e.2 = true := by
  have e1 : k ∈ ks ↔ some k ∈ ks.map some := by simp
  rw [e1, ← pk.mem_iff, List.mem_map]
  exact ⟨fun ⟨e, he, q⟩ => ⟨e, he, is_keyV q⟩, fun ⟨e, he, q⟩ => ⟨e, he, keyV_is q⟩⟩
/-- one key more -/
def addK (k : κ) (ks : List κ) : List κ := if k ∈ ks then ks else ks ++ [k]
/-- the keys of a list, each once, in the order in which they come -/
def onceK : List κ → List κ → List κ
  | acc, [] => acc
  | acc, k :: r => onceK (addK k acc) r
variable {A : Around} {E : Value → Shared → Prop} {s : Shared}
theorem setM_tail {o : Obj} {es es1 : Array (Int × Value)} {ep : Nat} {t t2 : SetTable} {gw : Bool → Sem Unit} {dm : Bool} {Z : Option Bool → Shared → Prop} (gwOk : ∀ (b : Bool) (s1 : Shared) (Q1 : Unit → Shared → Prop), Q1 () s1 → wpAny (model P w) A (gw b) Q1 E s1)
    (at0 : s.heap.get? a = some o ∧ o.ExactSet ∧ o.data = .set es ep t) (el : ElemsOf knd es1.toList) (pk : (es1.toList.map fun e => keyV knd e.2).Perm (ks.map some)) (nd : ks.Nodup) (sm : es1.size < scanBound) (ft : t2.fits es1.size = true) (ri : Ris t2.place.toList) (ld : w.params.followText "set-order" = true ∨ t2.led = true)
    (fin : ∀ hx, Heap.SameBut a s.heap hx → KSet knd hx a ks → Z (some true) { s with heap := hx }) :
    wpAny (model P w) A (storeSet a es1 t2 >>= fun _ => if (!dm && t2.tooFull) = true then (gw (relayAll t2 es1 (SetTable.grown es1.size)).2.2 >>= fun _ => storeSet a (relayAll t2 es1 (SetTable.grown es1.size)).1 (relayAll t2 es1 (SetTable.grown es1.size)).2.1 >>= fun _ => pure (some true)) else pure (some true)) Z E s := by
  obtain ⟨g1, g2, g3⟩ := at0
  refine wpAny_bind (wpAny_storeSet_of g1 g3 ?_ (fits_of_scanBound sm))
  have k1 := store_at (es' := es1) (t' := t2) g1 g3
  have b1 : Heap.SameBut a s.heap _ := Heap.SameBut.update s.heap a (Obj.putSet es1 t2)
  by_cases c : (!dm && t2.tooFull) = true
  · rw [if_pos c]
    have q1 := relayAll_perm t2 es1 (SetTable.grown es1.size); have q2 := relayAll_fits t2 es1 (SetTable.grown es1.size)
    have q3 := relayAll_ris t2 es1 (SetTable.grown es1.size); have q4 := relayAll_led t2 es1 (SetTable.grown es1.size)
    revert q1 q2 q3 q4
    rcases relayAll t2 es1 (SetTable.grown es1.size) with ⟨es2, t3, gv⟩
    intro q1 q2 q3 q4
    have sz : es2.size = es1.size := by simpa using q1.length_eq
    have sm2 : es2.size < scanBound := sz ▸ sm
    refine wpAny_bind (gwOk _ _ _ (wpAny_bind (wpAny_storeSet_of k1 rfl (wpAny_pure (fin _ (b1.trans (Heap.SameBut.update _ a _)) ⟨⟨_, es2, _, t3, ⟨store_at (es' := es2) (t' := t3) k1 rfl, g2, rfl⟩, el.perm q1, (q1.map _).trans pk, sm2, q2, q3, ?_⟩, nd⟩)) (fits_of_scanBound sm2))))
    exact ld.imp id fun z => q4.trans z
  · rw [if_neg c]
    exact wpAny_pure (fin _ b1 ⟨⟨_, es1, _, t2, ⟨k1, g2, rfl⟩, el, pk, sm, ft, ri, ld⟩, nd⟩)
theorem setM_add {k : κ} {v : Value} {Q : Bool → Shared → Prop} (m : KSet knd s.heap a ks) (iv : knd.is k v = true) (sv : v.scannable = true) (room : ks.length + 1 < scanBound)
    (fin : ∀ hx, Heap.SameBut a s.heap hx → KSet knd hx a (addK k ks) → Q (!decide (k ∈ ks)) { s with heap := hx }) : wpAny (model P w) A (setAddHashed a v (knd.hash k)) Q E s := by
  obtain ⟨⟨o, es, ep, t, ⟨g1, g2, g3⟩, el, pk, sm, ft, ri, ld⟩, nd⟩ := id m
  have len : es.size = ks.length := by simpa using pk.length_eq
  unfold setAddHashed setAddHashedIn
  refine wpAny_holding (wpAny_bind (wpAny_setState_of g1 g3 ft ?_))
  dsimp only
  rw [byScan_of sv sm el]
  simp only [↓reduceIte]; unfold setAddByScan
  refine wpAny_bind (wpAny_bind (wpAny_rule (wpAny_bind (wpAny_setScan_of iv g1 g3 ft el ?_))))
  by_cases hk : k ∈ ks
  · obtain ⟨j, hj⟩ : ∃ j, List.findIdx? (fun e => knd.is k e.2) es.toList = some j := by
      obtain ⟨e, he, q⟩ := (keys_find pk).mp hk
      cases z : List.findIdx? (fun e => knd.is k e.2) es.toList with
      | some j => exact ⟨j, rfl⟩
      | none => have c := List.findIdx?_eq_none_iff.mp z e he; rw [q] at c; cases c
    rw [hj]; dsimp only
    have z := fin s.heap (Heap.SameBut.refl a s.heap) (by unfold addK; rw [if_pos hk]; exact m)
    rw [decide_eq_true hk] at z
    exact wpAny_pure (wpAny_pure z)
  · have hn : List.findIdx? (fun e => knd.is k e.2) es.toList = none := by
      refine List.findIdx?_eq_none_iff.mpr fun e he => ?_
      cases z : knd.is k e.2 with
      | false => rfl
      | true => exact absurd ((keys_find pk).mpr ⟨e, he, z⟩) hk
    rw [hn]; dsimp only
    rw [decide_eq_false hk] at fin
    have eadd : addK k ks = ks ++ [k] := by unfold addK; rw [if_neg hk]
    rw [eadd] at fin
    have p1 := layNew_perm t es (knd.hash k) v; have p2 := layNew_fits t es (knd.hash k) v
    have p3 := layNew_ris t es (knd.hash k) v ri; have p4 := layNew_led t es (knd.hash k) v
    revert p1 p2 p3 p4
    rcases layNew t es (knd.hash k) v with ⟨es1, t1, dm, gv⟩
    intro p1 p2 p3 p4
    rw [Array.toList_push] at p1
    have el1 : ElemsOf knd es1.toList := (el.push iv sv).perm p1
    have pk1 : (es1.toList.map fun e => keyV knd e.2).Perm ((ks ++ [k]).map some) := by
      refine (p1.map _).trans ?_
      rw [List.map_append, List.map_append]
      refine pk.append ?_
      show [keyV knd v].Perm [some k]
      rw [keyV_is iv]
    have nd1 : (ks ++ [k]).Nodup := List.nodup_append.mpr ⟨nd, by simp, fun x hx y hy e => hk (by rw [List.mem_singleton.mp hy] at e; exact e ▸ hx)⟩
    have sm1 : es1.size < scanBound := by
      have e : es1.size = es.size + 1 := by simpa using p1.length_eq
      rw [e, len]; exact room
    have ld1 : w.params.followText "set-order" = true ∨ t1.led = true := ld.imp id fun z => p4.trans z
    refine wpAny_bind ?_
    have gwOk : ∀ (b : Bool) {s1 : Shared} {Q1 : Unit → Shared → Prop}, Q1 () s1 → wpAny (model P w) A (match b with | true => rule "set.scan.the-table-gave-way" | false => pure ()) Q1 E s1 := fun b s1 Q1 q => by
      cases b
      · exact wpAny_pure q
      · exact wpAny_rule q
    refine gwOk _ ?_
    split
    · refine wpAny_bind ?_
      rw [hashByValue_scannable 8 sv]
      refine wpAny_pure (setM_tail (fun b s1 Q1 q => ?_) ⟨g1, g2, g3⟩ el1 pk1 nd1 sm1 ?_ ?_ ?_ fun hx sb r => ?_)
      · cases b
        · exact wpAny_pure q
        · exact wpAny_rule q
      · first
          | exact p2
          | (split
             · exact p2
             · exact SetTable.fits_plain_off p2)
      · first
          | exact p3
          | (split <;> exact p3)
      · first
          | exact ld1
          | (split <;> exact ld1)
      · exact wpAny_pure (fin hx sb r)
    · refine wpAny_bind (wpAny_pure ?_)
      simp only [↓reduceIte]
      refine setM_tail (fun b s1 Q1 q => ?_) ⟨g1, g2, g3⟩ el1 pk1 nd1 sm1 p2 p3 ld1 fun hx sb r => ?_
      · cases b
        · exact wpAny_pure q
        · exact wpAny_rule q
      · exact wpAny_pure (fin hx sb r)
/-! ### set(xs) -/
def onceL (zs : List κ) : List κ := zs.foldl (fun acc k => addK k acc) []
theorem onceL_snoc (zs : List κ) (k : κ) : onceL (zs ++ [k]) = addK k (onceL zs) := by
  unfold onceL
  rw [List.foldl_append]; rfl
theorem addK_len (k : κ) (ks : List κ) : (addK k ks).length ≤ ks.length + 1 := by
  unfold addK
  split
  · omega
  · simp
theorem mem_addK {k x : κ} {ks : List κ} : x ∈ addK k ks ↔ x ∈ ks ∨ x = k := by
  unfold addK
  split
  · rename_i h; exact ⟨.inl, fun z => z.elim id fun e => e ▸ h⟩
  · simp
theorem mem_onceL {x : κ} (zs : List κ) : x ∈ onceL zs ↔ x ∈ zs := by
  have aux : ∀ (zs acc : List κ), x ∈ zs.foldl (fun acc k => addK k acc) acc ↔ x ∈ acc ∨ x ∈ zs := by
    intro zs
    induction zs with
    | nil => simp
    | cons z zs ih =>
      intro acc
      rw [List.foldl_cons, ih, mem_addK, List.mem_cons, or_assoc]
  unfold onceL
  simpa using aux zs []
theorem onceL_len (zs : List κ) : (onceL zs).length ≤ zs.length := by
  have aux : ∀ (zs acc : List κ), (zs.foldl (fun acc k => addK k acc) acc).length ≤ acc.length + zs.length := by
    intro zs
    induction zs with
    | nil => intro acc; exact Nat.le_refl _
    | cons z zs ih =>
      intro acc
      have h1 := ih (addK z acc)
      have h2 := addK_len z acc
      rw [List.foldl_cons, List.length_cons]
      omega
  unfold onceL
  simpa using aux zs []
theorem onceL_nodup (zs : List κ) : (onceL zs).Nodup := by
  have aux : ∀ (zs acc : List κ), acc.Nodup → (zs.foldl (fun acc k => addK k acc) acc).Nodup := by
    intro zs
    induction zs with
    | nil => exact fun _ h => h
    | cons z zs ih =>
      intro acc h
      refine ih _ ?_
      show (addK z acc).Nodup
      unfold addK
      split
      · exact h
      · rename_i hz
        exact List.nodup_append.mpr ⟨h, by simp, fun x hx y hy e => hz (by rw [List.mem_singleton.mp hy] at e; exact e ▸ hx)⟩
  exact aux zs [] List.nodup_nil
abbrev freshO (w : World) : Obj := { cls := .type "set", dict := none, data := .set #[] 0 (.fresh 0 0 (!w.params.followText "set-order")) }
theorem kset_fresh (e : h.get? a = some (freshO w)) : KSet knd h a [] :=
  ⟨⟨freshO w, #[], 0, .fresh 0 0 (!w.params.followText "set-order"), ⟨e, ⟨rfl, rfl, rfl⟩, rfl⟩, fun _ z => by simp at z, List.Perm.refl _, by decide, by rfl, List.Pairwise.nil, by
    cases z : w.params.followText "set-order" with
    | true => exact .inl rfl
    | false => exact .inr rfl⟩, List.nodup_nil⟩
/-- the loop of set.update -/
theorem kset_loop {it st : Addr} {fp wr : List Addr} {gr : Array GenState → Array GenState → Prop} {n : Nat} {pv : Nat → Value → Prop} {sx : Nat → Shared → Prop} {R : Result → Shared → Prop} (wk : WalksS P w A.in1 it fp wr gr n pv sx) (apart : st ∉ fp) (zs : List κ) (len : n = zs.length) (room : zs.length + 1 < scanBound)
    (key : ∀ i v, pv i v → ∃ k, zs[i]? = some k ∧ knd.is k v = true ∧ v.scannable = true) : ∀ (m i : Nat) (s : Shared), i + m = n → sx i s → KSet knd s.heap st (onceL (zs.take i)) →
      (∀ s', Moved (st :: wr) gr s s' → KSet knd s'.heap st (onceL zs) → R (.ok (.ret .none)) s') → codeAny (model P w) A (.builtin "set.update.loop" ⟨[.ref st, .ref it], []⟩) R s := by
  have apart2 : st ∉ wr := fun z => apart (wk.sub _ z)
  have sub2 : ∀ b ∈ wr, b ∈ st :: wr := fun b z => List.mem_cons_of_mem _ z
  intro m
  induction m with
  | zero =>
    intro i s e hx hk fin
    have ei : i = n := e
    subst ei
    refine codeAny_builtin F.entry_set_update_loop ?_
    rw [Around.under_plainId F.plain_set_update_loop _]
    show wpAny _ A.in1 (pyNext (.ref it) >>= _) _ _ s
    refine wpAny_bind (wk.done s _ _ hx fun s' mv => ?_)
    show wpAny _ A.in1 (ret Value.none) _ _ s'
    rw [List.take_of_length_le (Nat.le_of_eq len.symm)] at hk
    exact wpAny_pure (fin s' (mv.mono sub2) (hk.stay fun o z => mv.heap st o apart2 z))
  | succ m ih =>
    intro i s e hx hk fin
    have lt : i < n := by omega
    refine codeAny_builtin F.entry_set_update_loop ?_
    rw [Around.under_plainId F.plain_set_update_loop _]
    show wpAny _ A.in1 (pyNext (.ref it) >>= _) _ _ s
    refine wpAny_bind (wk.item i s _ _ lt hx fun v s' hv hx' mv => ?_)
    obtain ⟨k, hz, iv, sv⟩ := key i v hv
    have hk' := hk.stay (h' := s'.heap) fun o z => mv.heap st o apart2 z
    show wpAny _ A.in1 (holding [v] (setAdd st v) >>= _) _ _ s'
    refine wpAny_bind (wpAny_holding ?_)
    unfold setAdd
    refine wpAny_holding (wpAny_bind (knd.pyHash iv ?_))
    have small : (onceL (zs.take i)).length + 1 < scanBound := by
      have := onceL_len (zs.take i)
      rw [List.length_take] at this
      omega
    refine setM_add (s := { s' with toks := s'.toks + 1 }) hk' iv sv small fun hx2 sb hk2 => ?_
    rw [← onceL_snoc, show zs.take i ++ [k] = zs.take (i + 1) by rw [List.take_add_one, hz]; rfl] at hk2
    refine wpAny_pure ⟨plainId_quiet F.plain_set_update_loop _, ih (i + 1) _ (by omega) (wk.frame _ s' _ _ hx' (Nat.le_succ _) fun b hb o z => ?_) hk2 fun s2 mv2 hk3 => ?_⟩
    · exact (sb.2 b fun z2 => apart (z2 ▸ hb)).trans z
    · exact fin s2 (Moved.trans wk.gtrans ((mv.mono sub2).then_heap (Nat.le_succ _) fun b o hb z => (sb.2 b fun z2 => hb (by rw [z2]; exact List.mem_cons_self)).trans z) mv2) hk3
end
end DL

/-! The D layer, part 14: set(xs) of ints and texts. -/
namespace DL
open PySem PySem.Spec PyProof.Rows L2
section
variable {κ : Type} [DecidableEq κ] {P : Program} {w : World} {knd : PySem.KeyKind P w κ} {A : Around} {E : Value → Shared → Prop} {s : Shared}
theorem code_newSet (x : Value) {Q : Value → Shared → Prop} (q : Q (.ref s.heap.objs.size) { s with heap := s.heap.push (freshO w) }) : codeAny (model P w) A (.call (.builtin "set.__new__") ⟨[.type "set", x], []⟩) (wants Q E) s := code_set_led1 x q
theorem call_kset_list {l : Addr} {its : Array Value} (zs : List κ) {Q : Value → Shared → Prop} (calm : A.handled = none) (hl : s.heap.IsList l its) (len : its.size = zs.length) (key : ∀ (i : Nat) (v : Value), its[i]? = some v → ∃ k, zs[i]? = some k ∧ knd.is k v = true ∧ v.scannable = true) (room : zs.length + 1 < scanBound)
    (fin : ∀ hx tk, KSet knd hx s.heap.objs.size (onceL zs) → (∀ b o, s.heap.get? b = some o → hx.get? b = some o) → Q (.ref s.heap.objs.size) { s with heap := hx, toks := tk }) : wpAny (model P w) A (call (.type "set") [.ref l]) Q E s := by
  obtain ⟨cc, tl, mro⟩ := F.called_set.mro
  have made := F.called_set.made; have sub := F.called_set.sub
  refine wpAny_call (codeAny_of_tree (by
    show wpAny _ _ (callAny (.type "set") _) _ _ _
    refine wpAny_pure ⟨Code.quiet_builtin _ (by decide +kernel), codeAny_builtin F.entry_type_call ?_⟩
    rw [Around.under_plain (weight_type_call_type "set" [.ref l] []) rfl]
    have f1 := F.called_set.notType; have f2 := F.called_set.canCreate; have f3 := F.typeCall_set_1 (.ref l)
    repeat (any_goals (first | assumption | wp_step))
    refine codeAny_mono (code_newSet (P := P) (w := w) (.ref l) (E := E) (Q := fun x s1 => x = .ref s.heap.objs.size ∧ s1 = { s with heap := s.heap.push (freshO w) }) ⟨rfl, rfl⟩) fun r s1 hr => ?_
    match r, hr with
    | .error e, hr => exact hr
    | .ok .next, hr => exact hr.elim
    | .ok .brk, hr => exact hr.elim
    | .ok .cont, hr => exact hr.elim
    | .ok (.ret x), hr =>
      obtain ⟨rfl, rfl⟩ := hr
      have at0 : (s.heap.push (freshO w)).get? s.heap.objs.size = some (freshO w) := Heap.get?_push_size _ rfl
      have ty0 : Shared.TypeIs { s with heap := s.heap.push (freshO w) } (.ref s.heap.objs.size) "set" := ⟨_, at0, rfl⟩
      have f4 := F.called_set.init.lookup; have f5 := F.called_set.init.bind (.ref s.heap.objs.size)
      repeat (any_goals (first | assumption | wp_step))
      refine codeAny_mono (codeAny_call_builtin (R := wants (fun y s2 => y = .none ∧ ∃ hx tk, s2 = { s with heap := hx, toks := tk } ∧ KSet knd hx s.heap.objs.size (onceL zs) ∧ ∀ b o, s.heap.get? b = some o → hx.get? b = some o) E) F.called_set.init.plain F.entry_set_init (check_set_init_1 ty0 (by
        obtain ⟨⟨oc, od, oda, os⟩, ol, e1, nl, e2⟩ := hl
        simp only at e1 e2
        subst e1; subst e2
        have ol2 : (s.heap.push (freshO w)).get? l = some { cls := .type "list", dict := od, data := .seq its nl, slots := os } := Heap.get?_push_of_some _ ol
        have b1 := F.sub_list_set; have b2 := F.sub_list_frozenset
        have b3 : (Value.type "list" == Value.type "dict") = false := by decide
        have il : (s.heap.push (freshO w)).IsList l its := ⟨_, ol2, rfl, nl, rfl⟩
        unfold Builtin.«set.__init__» noKeywords Builtin.Frozenset.updateFrom
        generalize gPI : pyIter = PI
        wp_walk
        subst gPI
        refine wpAny_pyIter_list il (wpAny_bind (wpAny_runValue ?_))
        have lt0 : l < s.heap.objs.size := Heap.lt_size ol
        have calm3 : A.in1.in1.in1.handled = none := by simp [calm]
        have ne1 : l ≠ (s.heap.push (freshO w)).objs.size := by
          rw [Heap.size_push]; exact Nat.ne_of_lt (Nat.lt_succ_of_lt lt0)
        have ap : s.heap.objs.size ∉ [(s.heap.push (freshO w)).objs.size, l] := by
          rw [Heap.size_push]
          intro z
          rcases List.mem_cons.mp z with z | z
          · exact absurd z (Nat.ne_of_lt (Nat.lt_succ_self _))
          · exact absurd (List.mem_singleton.mp z) (Nat.ne_of_gt lt0)
        refine kset_loop (Walks.list calm3 _ l ne1 its).toS ap zs len room key its.size 0 _ (Nat.zero_add _) ⟨⟨_, Heap.get?_push_size _ rfl, rfl, rfl⟩, il.push _⟩ (kset_fresh (Heap.get?_push_of_some _ at0)) ?_
        rintro ⟨hx, g2, d2, tk2, o2⟩ mv ks2
        have q1 : g2 = s.gens := mv.gens
        have q2 : d2 = s.drawn := mv.drawn
        have q3 : o2 = s.os := mv.os
        subst q1; subst q2; subst q3
        show wpAny _ _ _ _ _ _
        refine wpAny_pure ?_
        show wpAny _ _ (ret Value.none) _ _ _
        refine wpAny_pure ⟨rfl, hx, tk2, rfl, ks2, fun b o e => mv.heap b o (fun z => ?_) (Heap.get?_push_of_some _ (Heap.get?_push_of_some _ e))⟩
        have lb : b < s.heap.objs.size := Heap.lt_size e
        rcases List.mem_cons.mp z with z | z
        · exact absurd lb (by rw [z]; exact Nat.lt_irrefl _)
        · exact absurd lb (by
            rw [List.mem_singleton.mp z, Heap.size_push]
            exact Nat.not_lt_of_le (Nat.le_succ _))))) fun r2 s2 hr2 => ?_
      match r2, hr2 with
      | .error e, hr2 => exact hr2
      | .ok .next, hr2 => exact hr2.elim
      | .ok .brk, hr2 => exact hr2.elim
      | .ok .cont, hr2 => exact hr2.elim
      | .ok (.ret y), hr2 =>
        obtain ⟨rfl, hx, tk, rfl, ks2, old⟩ := hr2
        repeat (any_goals (first | assumption | wp_step))
        exact fin hx tk ks2 old))
theorem call_kset_tuple {l : Addr} {its : Array Value} (zs : List κ) {Q : Value → Shared → Prop} (calm : A.handled = none) (hl : s.heap.IsTuple l its) (len : its.size = zs.length) (key : ∀ (i : Nat) (v : Value), its[i]? = some v → ∃ k, zs[i]? = some k ∧ knd.is k v = true ∧ v.scannable = true) (room : zs.length + 1 < scanBound)
    (fin : ∀ hx tk, KSet knd hx s.heap.objs.size (onceL zs) → (∀ b o, s.heap.get? b = some o → hx.get? b = some o) → Q (.ref s.heap.objs.size) { s with heap := hx, toks := tk }) : wpAny (model P w) A (call (.type "set") [.ref l]) Q E s := by
  obtain ⟨cc, tl, mro⟩ := F.called_set.mro
  have made := F.called_set.made; have sub := F.called_set.sub
  refine wpAny_call (codeAny_of_tree (by
    show wpAny _ _ (callAny (.type "set") _) _ _ _
    refine wpAny_pure ⟨Code.quiet_builtin _ (by decide +kernel), codeAny_builtin F.entry_type_call ?_⟩
    rw [Around.under_plain (weight_type_call_type "set" [.ref l] []) rfl]
    have f1 := F.called_set.notType; have f2 := F.called_set.canCreate; have f3 := F.typeCall_set_1 (.ref l)
    repeat (any_goals (first | assumption | wp_step))
    refine codeAny_mono (code_newSet (P := P) (w := w) (.ref l) (E := E) (Q := fun x s1 => x = .ref s.heap.objs.size ∧ s1 = { s with heap := s.heap.push (freshO w) }) ⟨rfl, rfl⟩) fun r s1 hr => ?_
    match r, hr with
    | .error e, hr => exact hr
    | .ok .next, hr => exact hr.elim
    | .ok .brk, hr => exact hr.elim
    | .ok .cont, hr => exact hr.elim
    | .ok (.ret x), hr =>
      obtain ⟨rfl, rfl⟩ := hr
      have at0 : (s.heap.push (freshO w)).get? s.heap.objs.size = some (freshO w) := Heap.get?_push_size _ rfl
      have ty0 : Shared.TypeIs { s with heap := s.heap.push (freshO w) } (.ref s.heap.objs.size) "set" := ⟨_, at0, rfl⟩
      have f4 := F.called_set.init.lookup; have f5 := F.called_set.init.bind (.ref s.heap.objs.size)
      repeat (any_goals (first | assumption | wp_step))
      refine codeAny_mono (codeAny_call_builtin (R := wants (fun y s2 => y = .none ∧ ∃ hx tk, s2 = { s with heap := hx, toks := tk } ∧ KSet knd hx s.heap.objs.size (onceL zs) ∧ ∀ b o, s.heap.get? b = some o → hx.get? b = some o) E) F.called_set.init.plain F.entry_set_init (check_set_init_1 ty0 (by
        obtain ⟨⟨oc, od, oda, os⟩, ol, e1, nl, e2⟩ := hl
        simp only at e1 e2
        subst e1; subst e2
        have ol2 : (s.heap.push (freshO w)).get? l = some { cls := .type "tuple", dict := od, data := .seq its nl, slots := os } := Heap.get?_push_of_some _ ol
        have b1 := F.sub_tuple_set; have b2 := F.sub_tuple_frozenset
        have b3 : (Value.type "tuple" == Value.type "dict") = false := by decide
        have il : (s.heap.push (freshO w)).IsTuple l its := ⟨_, ol2, rfl, nl, rfl⟩
        unfold Builtin.«set.__init__» noKeywords Builtin.Frozenset.updateFrom
        generalize gPI : pyIter = PI
        wp_walk
        subst gPI
        refine wpAny_pyIter_tuple il (wpAny_bind (wpAny_runValue ?_))
        have lt0 : l < s.heap.objs.size := Heap.lt_size ol
        have calm3 : A.in1.in1.in1.handled = none := by simp [calm]
        have ne1 : l ≠ (s.heap.push (freshO w)).objs.size := by
          rw [Heap.size_push]; exact Nat.ne_of_lt (Nat.lt_succ_of_lt lt0)
        have ap : s.heap.objs.size ∉ [(s.heap.push (freshO w)).objs.size, l] := by
          rw [Heap.size_push]
          intro z
          rcases List.mem_cons.mp z with z | z
          · exact absurd z (Nat.ne_of_lt (Nat.lt_succ_self _))
          · exact absurd (List.mem_singleton.mp z) (Nat.ne_of_gt lt0)
        refine kset_loop (Walks.tuple calm3 _ l ne1 its).toS ap zs len room key its.size 0 _ (Nat.zero_add _) ⟨⟨_, Heap.get?_push_size _ rfl, rfl, rfl⟩, il.push _⟩ (kset_fresh (Heap.get?_push_of_some _ at0)) ?_
        rintro ⟨hx, g2, d2, tk2, o2⟩ mv ks2
        have q1 : g2 = s.gens := mv.gens
        have q2 : d2 = s.drawn := mv.drawn
        have q3 : o2 = s.os := mv.os
        subst q1; subst q2; subst q3
        show wpAny _ _ _ _ _ _
        refine wpAny_pure ?_
        show wpAny _ _ (ret Value.none) _ _ _
        refine wpAny_pure ⟨rfl, hx, tk2, rfl, ks2, fun b o e => mv.heap b o (fun z => ?_) (Heap.get?_push_of_some _ (Heap.get?_push_of_some _ e))⟩
        have lb : b < s.heap.objs.size := Heap.lt_size e
        rcases List.mem_cons.mp z with z | z
        · exact absurd lb (by rw [z]; exact Nat.lt_irrefl _)
        · exact absurd lb (by
            rw [List.mem_singleton.mp z, Heap.size_push]
            exact Nat.not_lt_of_le (Nat.le_succ _))))) fun r2 s2 hr2 => ?_
      match r2, hr2 with
      | .error e, hr2 => exact hr2
      | .ok .next, hr2 => exact hr2.elim
      | .ok .brk, hr2 => exact hr2.elim
      | .ok .cont, hr2 => exact hr2.elim
      | .ok (.ret y), hr2 =>
        obtain ⟨rfl, hx, tk, rfl, ks2, old⟩ := hr2
        repeat (any_goals (first | assumption | wp_step))
        exact fin hx tk ks2 old))
end
end DL

/-! The D layer, part 15: sorted(set), len(set). -/
namespace DL
open PySem PySem.Spec PyProof.Rows L2 PySem.W
section
variable {P : Program} {w : World} {A : Around} {E : Value → Shared → Prop} {s : Shared} {a : Addr} {ks : List Key}
theorem keyIs_rel {k : Key} {v : Value} (e : (mixKind P w).is k v = true) : RelV (kV k) v := relV_key e
theorem keys_of {vs : List Value} (p : (vs.map (keyV (mixKind P w))).Perm (ks.map some)) : ∃ ys : List Key, ys.Perm ks ∧ EachIs (fun v k => (mixKind P w).is k v = true) vs ys := by
  have aux : ∀ (vs : List Value), (∀ v ∈ vs, ∃ k, keyV (mixKind P w) v = some k) → ∃ ys : List Key, vs.map (keyV (mixKind P w)) = ys.map some ∧ EachIs (fun v k => (mixKind P w).is k v = true) vs ys := by
    intro vs
    induction vs with
    | nil => exact fun _ => ⟨[], rfl, .nil⟩
    | cons v vs ih =>
      intro h
      obtain ⟨k, hk⟩ := h v List.mem_cons_self
      obtain ⟨ys, e1, e2⟩ := ih fun x hx => h x (List.mem_cons_of_mem _ hx)
      exact ⟨k :: ys, by rw [List.map_cons, List.map_cons, hk, e1], .cons (is_keyV hk) e2⟩
  obtain ⟨ys, e1, e2⟩ := aux vs fun v hv => by
    have := p.mem_iff.mp (List.mem_map_of_mem hv)
    obtain ⟨k, _, e⟩ := List.mem_map.mp this
    exact ⟨k, e.symm⟩
  refine ⟨ys, ?_, e2⟩
  rw [e1] at p
  have q := p.filterMap id
  simpa using q
theorem each_sel {R : Value → Key → Prop} : ∀ {vs : List Value} {ys : List Key}, EachIs R vs ys → ∀ {R' : Value → Key → Prop}, (∀ v k, R v k → R' v k) → EachIs R' vs ys
  | _, _, .nil, _, _ => .nil
  | _, _, .cons h t, _, f => .cons (f _ _ h) (each_sel t f)
def leK (j k : Key) : Bool := leD (kD j) (kD k)
theorem sorted_kset {Q : Value → Shared → Prop} (m : KSet (mixKind P w) s.heap a ks) (calm : A.handled = none) (hu : A.units + 64 < cLine) (hal : ∀ j ∈ ks, ∀ k ∈ ks, alike (dat (kD j)) (dat (kD k)) = true)
    (fin : ∀ s' p (out : Array Value) (c : Nat) (ys : List Key), (∀ b o, s.heap.get? b = some o → s'.heap.get? b = some o) → s'.gens = s.gens → s'.os = s.os → s.heap.objs.size ≤ p → s'.heap.get? p = some (seqObj "list" out c) → ys.Perm ks → EachIs (fun v k => (mixKind P w).is k v = true) out.toList (ys.mergeSort leK) → Q (.ref p) s') :
    wpAny (model P w) A (call (.builtin "sorted") [.ref a]) Q E s := by
  obtain ⟨⟨o, es, ep, t, ⟨g1, g2, g3⟩, el, pk, sm, ft, ri, ld⟩, nd⟩ := m
  refine Calls.call_function_entry kind_sorted plain_sorted entry_sorted (args_sorted1 _) ?_
  unfold Builtin.«sorted»
  refine wpAny_bind (m := checkCount "sorted" 1 1 _) (wpAny_pure (wpAny_bind (collect_set (A := A.in1) calm ⟨o, g1, g2.1, g3⟩ ft sm ri ld fun s1 vs old sz gg oo pm => ?_)))
  have pv : (vs.map (keyV (mixKind P w))).Perm (ks.map some) := by
    refine (pm.map _).trans ?_
    rw [List.map_map]
    exact pk
  obtain ⟨ys, py, ey⟩ := keys_of pv
  have small : vs.length ≤ sizeLine := by
    rw [pm.length_eq, List.length_map, Array.length_toList]
    exact fits_of_scanBound sm
  have len : vs.length = ys.length := ey.length
  refine wpAny_bind (wpAny_newList ?_ small)
  have new : (s1.heap.push (seqObj "list" vs.toArray 0)).get? s1.heap.objs.size = some (seqObj "list" vs.toArray 0) := Heap.get?_push_size _ rfl
  refine wpAny_bind (wpAny_holding (thn (Q := fun v s2 => ∃ out : List Value, v = .none ∧ EachIs (fun v k => (mixKind P w).is k v = true) out (ys.mergeSort leK) ∧ s2 = { s1 with heap := sortedHeap (s1.heap.push (seqObj "list" vs.toArray 0)) s1.heap.objs.size vs out.toArray }) ?_ fun v s2 ⟨out, e1, e2, e3⟩ => ?_))
  · refine list_sort_data (enc := fun k => dat (kD k)) (R := fun v k => (mixKind P w).is k v = true) new ey (each_sel ey fun v k e => ?_) ?_ ?_ (by rw [← len]; exact small) (fun k _ => ?_) fun out _ eo => ⟨out, rfl, eo, rfl⟩
    · rcases keyIs_shape e with ⟨i, tk, rfl, rfl⟩ | ⟨x, tk, rfl, rfl⟩
      · exact ⟨[], .int i tk, by simp⟩
      · exact ⟨[], .str x tk, by simp⟩
    · intro d hd d2 hd2
      obtain ⟨j, hj, rfl⟩ := List.mem_map.mp hd
      obtain ⟨k, hk, rfl⟩ := List.mem_map.mp hd2
      exact hal j (py.mem_iff.mp hj) k (py.mem_iff.mp hk)
    · refine .inr fun d hd => ?_
      obtain ⟨j, _, rfl⟩ := List.mem_map.mp hd
      cases j with
      | inl i => exact ⟨by simp [kD, dat], fun xs => by simp [kD, dat]⟩
      | inr x => exact ⟨by simp [kD, dat], fun xs => by simp [kD, dat]⟩
    · have : (dat (kD k)).depth = 0 := by cases k <;> rfl
      rw [this]
      show A.units + 1 + 1 + 0 < cLine
      omega
  · subst e1; subst e3
    obtain ⟨c, hc⟩ := sortedHeap_at (vs := vs) (out := out.toArray) new
    refine wpAny_pure ⟨_, rfl, fin _ s1.heap.objs.size out.toArray c ys (fun b u e => ?_) gg oo sz hc py (by simpa using e2)⟩
    have q := old b u e
    have lt := Heap.lt_size q
    show (sortedHeap (s1.heap.push (seqObj "list" vs.toArray 0)) s1.heap.objs.size vs out.toArray).get? b = some u
    rw [sortedHeap_old (Nat.ne_of_lt lt) (by rw [size_push']; exact Nat.lt_succ_of_lt lt)]
    exact Heap.get?_push_of_some _ q
end
/-! ### as rules of the layer -/
abbrev stO (P : Program) (w : World) (a : Addr) (ks : List Key) : HO := .ext fun h => KSet (mixKind P w) h a ks
section
variable {X : Cx}
/-- set(xs), xs a list or a tuple of ints and texts -/
theorem call_setK (calm : X.calm = true) : CallR X (.type "set") (fun vs H Q => ∃ (l : Addr) (ks : List Key), vs = [.ref l] ∧ (SqL X.K H l (ks.map kV) ∨ SqT X.K H l (ks.map kV)) ∧ ks.length ≤ 4000 ∧ ∀ a, H a = none → Q (.ref a) (upd H a (stO X.prog X.w a (onceL ks)))) := by
  intro pins s σ H vs us Q I r h
  obtain ⟨l, ks, rfl, hS, hz, q⟩ := h
  rw [Vals.ref1 r]
  have room : ks.length + 1 < scanBound := by
    have : scanBound = 4096 := rfl
    omega
  have hH : H s.heap.objs.size = none := I.hok.fresh (Nat.le_refl _)
  have key : ∀ its : List Value, Vals (ks.map kV) its → ∀ (i : Nat) (v : Value), its[i]? = some v → ∃ k, ks[i]? = some k ∧ (mixKind X.prog X.w).is k v = true ∧ v.scannable = true := fun its rv i v hv => by
    obtain ⟨x, e1, e2⟩ := vals_get rv i v hv
    rw [List.getElem?_map] at e1
    obtain ⟨k, e3, rfl⟩ := Option.map_eq_some_iff.mp e1
    refine ⟨k, e3, ?_⟩
    cases k with
    | inl j => obtain ⟨t, rfl⟩ := e2; exact ⟨mixKind_int _ _ j t, rfl⟩
    | inr x => obtain ⟨t, rfl⟩ := e2; exact ⟨mixKind_str _ _ x t, rfl⟩
  have fin : ∀ hx tk, KSet (mixKind X.prog X.w) hx s.heap.objs.size (onceL ks) → (∀ b o, s.heap.get? b = some o → hx.get? b = some o) → EP X pins σ Q (.ref s.heap.objs.size) { s with heap := hx, toks := tk } := fun hx tk ks2 old => by
    refine ⟨.ref s.heap.objs.size, _, I.laid (t' := tk) (o := stO X.prog X.w s.heap.objs.size (onceL ks)) old (Nat.le_refl _) ⟨ks2, ?_, fun h1 h2 m e => m.stay e⟩, rfl, q _ hH⟩
    obtain ⟨⟨o, _, _, _, ⟨e, _⟩, _⟩, _⟩ := ks2
    exact ⟨o, e⟩
  rcases hS with hS | hS
  · obtain ⟨its, rv, pl, _⟩ := I.list hS
    have len : its.toArray.size = ks.length := by have := rv.length; simp at this; simp [this]
    exact call_kset_list (knd := mixKind X.prog X.w) ks (I.ok.hd calm) pl.isList len (fun i v hv => key its rv i v (by simpa using hv)) room fin
  · obtain ⟨its, rv, pl, _⟩ := I.tuple hS
    have len : its.toArray.size = ks.length := by have := rv.length; simp at this; simp [this]
    exact call_kset_tuple (knd := mixKind X.prog X.w) ks (I.ok.hd calm) pl len (fun i v hv => key its rv i v (by simpa using hv)) room fin
/-- sorted(set) -/
theorem call_sortedK (calm : X.calm = true) (hu : X.A.units + 64 < cLine) : CallR X (.builtin "sorted") (fun vs H Q => ∃ (a : Addr) (ks : List Key), vs = [.ref a] ∧ H a = some (stO X.prog X.w a ks) ∧ (∀ j ∈ ks, ∀ k ∈ ks, PySem.W.alike (dat (kD j)) (dat (kD k)) = true) ∧ ∀ (ys : List Key) (p : Addr), ys.Perm ks → H p = none → Q (.ref p) (upd H p (.lst ((ys.mergeSort leK).map kV)))) := by
  intro pins s σ H vs us Q I r h
  obtain ⟨a, ks, rfl, ha, hal, q⟩ := h
  rw [Vals.ref1 r]
  have m : KSet (mixKind X.prog X.w) s.heap a ks := (I.hok a _ ha).1
  refine sorted_kset m (I.ok.hd calm) hu hal fun s' p out c ys old gg oo sz hp py eo => ?_
  have hn : H p = none := I.hok.fresh sz
  have vals : ∀ {us : List Value} {zs : List Key}, PySem.W.EachIs (fun v k => (mixKind X.prog X.w).is k v = true) us zs → Vals (zs.map kV) us := by
    intro us zs e
    induction e with
    | nil => exact .nil
    | cons h _ ih => exact .cons (keyIs_rel h) ih
  have rv := vals eo
  have small : ((ys.mergeSort leK).map kV).length ≤ sizeLine := by
    obtain ⟨⟨o, es, ep, t, _, _, pk, sm, _⟩, _⟩ := m
    have e1 : es.size = ks.length := by simpa using pk.length_eq
    rw [List.length_map, List.length_mergeSort, py.length_eq, ← e1]
    exact fits_of_scanBound sm
  have J : Inv X pins σ (upd H p (.lst ((ys.mergeSort leK).map kV))) { s with heap := s'.heap, gens := s'.gens, drawn := s'.drawn, toks := s'.toks } :=
    I.call (ch := []) (Un.laid old sz hn) (I.hok.laid old sz ⟨small, out.toList, c, rv, by simpa using hp⟩) (gg.symm ▸ I.bare) fun _ z => nomatch z
  have e : s' = { s with heap := s'.heap, gens := s'.gens, drawn := s'.drawn, toks := s'.toks } := by
    cases s'; cases s; cases oo; rfl
  rw [e]
  exact ⟨.ref p, _, J, rfl, q ys p py hn⟩
end
end DL

/-! The D layer, part 16: sorted(set(xs)), len(set(xs)), by the Lean values. -/
namespace DL
open PySem PySem.Spec PyProof.Rows L2
class KeyEnc {α : Type} (f : α → D) (g : outParam (α → Key)) : Prop where
  e : ∀ a, f a = kD (g a)
  inj : ∀ a b, g a = g b → a = b
instance KeyEnc.int : KeyEnc D.int Sum.inl := ⟨fun _ => rfl, fun _ _ h => by cases h; rfl⟩
instance KeyEnc.str : KeyEnc D.str Sum.inr := ⟨fun _ => rfl, fun _ _ h => by cases h; rfl⟩
theorem onceL_map {α β : Type} [DecidableEq α] [DecidableEq β] {g : α → β} (inj : ∀ a b, g a = g b → a = b) (xs : List α) : onceL (xs.map g) = (onceL xs).map g := by
  have aux : ∀ (xs acc : List α), (xs.map g).foldl (fun acc k => addK k acc) (acc.map g) = (xs.foldl (fun acc k => addK k acc) acc).map g := by
    intro xs
    induction xs with
    | nil => exact fun _ => rfl
    | cons x xs ih =>
      intro acc
      rw [List.map_cons, List.foldl_cons, List.foldl_cons, ← ih]
      congr 1
      unfold addK
      by_cases h : x ∈ acc
      · rw [if_pos h, if_pos (List.mem_map_of_mem h)]
      · rw [if_neg h, if_neg (fun z => h (by
          obtain ⟨y, hy, e⟩ := List.mem_map.mp z
          rw [← inj _ _ e]; exact hy)), List.map_append]
        rfl
  exact aux xs []
theorem perm_of_map {α β : Type} {g : α → β} {m ys : List β} (p : m.Perm ys) : ∀ l : List α, l.map g = m → ∃ zs : List α, ys = zs.map g ∧ zs.Perm l := by
  induction p with
  | nil =>
    intro l e
    cases l with
    | nil => exact ⟨[], rfl, .refl _⟩
    | cons a l => cases e
  | cons x _ ih =>
    intro l e
    cases l with
    | nil => cases e
    | cons a l =>
      obtain ⟨e1, e2⟩ := List.cons.inj e
      obtain ⟨zs, e3, p3⟩ := ih l e2
      exact ⟨a :: zs, by rw [List.map_cons, e1, e3], p3.cons a⟩
  | swap x y r =>
    intro l e
    match l, e with
    | a :: b :: l, e =>
      obtain ⟨e1, e2⟩ := List.cons.inj e
      obtain ⟨e3, e4⟩ := List.cons.inj e2
      exact ⟨b :: a :: l, by rw [List.map_cons, List.map_cons, e1, e3, e4], .swap a b l⟩
  | trans _ _ ih1 ih2 =>
    intro l e
    obtain ⟨zs, e1, p1⟩ := ih1 l e
    obtain ⟨us, e2, p2⟩ := ih2 zs e1.symm
    exact ⟨us, e2, p2.trans p1⟩
theorem Holds.junk {F : Fr} {G : Hp} {Γ : DL.Env} {σ : L2.St} {H : Hp} (h : Holds F G Γ σ H) {p : Addr} {o : HO} (hp : H p = none) : Holds F G Γ σ (upd H p o) :=
  ⟨h.g0, h.gh.trans fun b u e => by rw [upd_ne (ne_of_none e hp)]; exact e, h.bh.trans fun b u e => by rw [upd_ne (ne_of_none e hp)]; exact e, h.gb, h.nw, h.len, h.sl, ⟨h.mem.nd, fun q m => by
    obtain ⟨a, b, o', e', s'⟩ := h.mem.at_ q m
    exact ⟨a, b, o', by rw [upd_ne (ne_of_none e' hp)]; exact e', s'⟩⟩, h.rd⟩
theorem reps_keys {G : Hp} : ∀ {ks : List Key} {vs : List V}, Reps G vs (ks.map kD) → vs = ks.map kV
  | [], vs, h => h.nil_inv
  | k :: ks, vs, h => by
    obtain ⟨v, vr, rfl, a, b⟩ := Reps.cons_inv (ds := ks.map kD) h
    rw [a.kD_inv, reps_keys b]; rfl
theorem kv_reps {G : Hp} (ks : List Key) : Reps G (ks.map kV) (ks.map kD) := reps_kV ks
section
variable {X : Cx} {F : Fr} {Γ : DL.Env} {sl : List (Option D)} {M R : Mem} {Q : D → DL.Env → Prop}
/-- what the value of e gives to sorted(set(e)) -/
def WSorted (X : Cx) (F : Fr) (d : D) (Γ : DL.Env) (Q : D → DL.Env → Prop) : Prop := ∀ G σ H x, Holds F G Γ σ H → Rep G x d → ∀ R, Good F Q G σ R →
  ∃ (l : Addr) (ks : List Key), [x] = [V.ref l] ∧ (SqL X.K H l (ks.map kV) ∨ SqT X.K H l (ks.map kV)) ∧ ks.length ≤ 4000 ∧ (∀ j ∈ onceL ks, ∀ k ∈ onceL ks, PySem.W.alike (dat (kD j)) (dat (kD k)) = true) ∧
    ∀ a, H a = none → ∀ (ys : List Key) (p : Addr), ys.Perm (onceL ks) → upd H a (stO X.prog X.w a (onceL ks)) p = none → R (.ref p) (upd (upd H a (stO X.prog X.w a (onceL ks))) p (.lst ((ys.mergeSort leK).map kV)))
theorem wsorted_go {α : Type} [DecidableEq α] {f : α → D} {lt : α → α → Bool} {n : Nat} {g : α → Key} {d : D} {xs : List α} [sd : SeeQ M R d (xs.map f)] [hf : DOrd f lt n] [kg : KeyEnc f g] (hz : xs.length ≤ 4000) (q : ∀ p, Q (.ref p) ⟨sl, (p, .lst ((srt lt (onceL xs)).map f)) :: M, R⟩) : WSorted X F d ⟨sl, M, R⟩ Q := fun G σ H x hh rx K hK => by
  have ef : xs.map f = (xs.map g).map kD := by
    rw [List.map_map]
    exact List.map_congr_left fun a _ => kg.e a
  have h0 : ∃ (p : Addr) (vs : List V), x = .ref p ∧ (SqL X.K H p vs ∨ SqT X.K H p vs) ∧ Reps G vs ((xs.map g).map kD) := by
    rw [← ef]
    rcases sd.see with s | s
    · obtain ⟨p, vs, e, hS, hr⟩ := hh.seeL (K := X.K) rx s
      exact ⟨p, vs, e, .inl hS, hr⟩
    · obtain ⟨p, vs, e, hS, hr⟩ := hh.seeT (K := X.K) rx s
      exact ⟨p, vs, e, .inr hS, hr⟩
  obtain ⟨p, vs, rfl, hS, hr⟩ := h0
  rw [reps_keys hr] at hS
  refine ⟨p, xs.map g, rfl, hS, by rw [List.length_map]; exact hz, ?_, fun a ha ys p2 py hp2 => ?_⟩
  · rw [onceL_map kg.inj]
    intro j hj k hk
    obtain ⟨b, _, rfl⟩ := List.mem_map.mp hj
    obtain ⟨c, _, rfl⟩ := List.mem_map.mp hk
    rw [← kg.e, ← kg.e]
    exact hf.al b c
  · rw [onceL_map kg.inj] at py
    obtain ⟨zs, ez, pz⟩ : ∃ zs : List α, ys = zs.map g ∧ zs.Perm (onceL xs) := perm_of_map py.symm _ rfl
    subst ez
    have es : ((zs.map g).mergeSort leK) = (srt lt (onceL xs)).map g := by
      rw [← hf.srt_eq pz]
      refine (List.map_mergeSort (r := fun a b => !lt b a) (s := leK) (f := g) (l := zs) (fun a _ b _ => ?_)).symm
      show (!lt b a) = leD (kD (g a)) (kD (g b))
      rw [← kg.e, ← kg.e, hf.leD]
    rw [es]
    have em : (srt lt (onceL xs)).map f = ((srt lt (onceL xs)).map g).map kD := by
      rw [List.map_map]
      exact List.map_congr_left fun a _ => kg.e a
    refine hK _ _ G _ _ (q p2) (Same.refl G) ((hh.junk ha).newOwn hp2 (.lst ?_)) (.ref p2)
    rw [em]
    exact kv_reps _
theorem we_sortedSet {e : Expr} {p1 p2 q1 q2 : Pos} (bs : BltAt X "sorted" (.builtin "sorted")) (bt : BltAt X "set" (.type "set")) (hX : Std X) (he : starEach [e] X.env = (false, eval e X.env) :: starEach [] X.env) (hpl : (backTo q2 (starEach [] X.env)).any (·.1) = false) (h : WE X F e Γ fun d Γ1 => WSorted X F d Γ1 Q) :
    WE X F (.Call (.Name "sorted" p1) [.Call (.Name "set" p2) [e] [] q2] [] q1) Γ Q := fun G σ H hh R hR => by
  have i1 : PE X (.Call (.Name "set" p2) [e] [] q2) _ := pe_callTy (call_setK hX.calm) bt.gl bt.mg bt.bv (pa_cons (pe_U (X := X) (e := e)) pa_nil he) bt.hn bt.hdb he hpl
  have i2 : PE X (.Call (.Name "sorted" p1) [.Call (.Name "set" p2) [e] [] q2] [] q1) _ := pe_callB (call_sortedK hX.calm hX.hu) bs.gl bs.mg bs.bv (pa_cons i1 pa_nil) bs.hn bs.hdb
  refine tU_of i2 ?_
  refine h G σ H hh _ fun d Γ1 G1 v H1 q s1 h1 r1 => ?_
  obtain ⟨l, ks, ev, hS, hz, hal, fin⟩ := q G1 σ H1 v h1 r1 R fun d2 Γ2 G2 v2 H2 q2 s2 => hR d2 Γ2 G2 v2 H2 q2 (s1.trans s2)
  refine ⟨l, ks, ev, hS, hz, fun a ha => ?_⟩
  exact ⟨a, onceL ks, rfl, upd_same, hal, fun ys p py hp => fin a ha ys p py hp⟩
end
end DL

/-! The D layer, part 17: the methods of dicts. -/
namespace DL
open PySem PySem.Spec PyProof.Rows L2
/-- y is the word of the key k -/
class KeyAs (y : D) (k : outParam Key) : Prop where
  e : y = kD k
instance KeyAs.int {i : Int} : KeyAs (.int i) (.inl i) := ⟨rfl⟩
instance KeyAs.str {x : Str} : KeyAs (.str x) (.inr x) := ⟨rfl⟩
/-- y is the word of the tuple of keys ks -/
class KeyTAs (y : D) (ks : outParam (List Key)) : Prop where
  e : y = .tup (ks.map kD)
class KeysAs (ds : List D) (ks : outParam (List Key)) : Prop where
  e : ds = ks.map kD
instance KeysAs.nil : KeysAs [] [] := ⟨rfl⟩
instance KeysAs.cons {d : D} {ds : List D} {k : Key} {ks : List Key} [h : KeyAs d k] [t : KeysAs ds ks] : KeysAs (d :: ds) (k :: ks) := ⟨by rw [h.e, t.e]; rfl⟩
instance KeysAs.map {α : Type} {f : α → D} {g : α → Key} {xs : List α} [h : KeyEnc f g] : KeysAs (xs.map f) (xs.map g) := ⟨by rw [List.map_map]; exact List.map_congr_left fun a _ => h.e a⟩
instance KeyTAs.tup {ds : List D} {ks : List Key} [h : KeysAs ds ks] : KeyTAs (.tup ds) ks := ⟨by rw [h.e]⟩
section
variable {X : Cx} {F : Fr} {Γ : DL.Env} {sl : List (Option D)} {M R : Mem} {Q : D → DL.Env → Prop}
def IsDD (F : Fr) (d : D) (Γ : DL.Env) : Prop := ∀ G σ H v, Holds F G Γ σ H → Rep G v d → ∃ a, v = .ref a ∧ IsD H a
theorem isDD_K {d : D} {kds : List (Key × D)} [sd : SeeK M R d kds] : IsDD F d ⟨sl, M, R⟩ := fun G σ H v hh r => by
  obtain ⟨p, kvs, rfl, a, _⟩ := hh.seeK r sd.see
  exact ⟨p, rfl, .inl ⟨kvs, a⟩⟩
theorem isDD_T {d : D} {kds : List (List Key × D)} [sd : SeeDT M R d kds] : IsDD F d ⟨sl, M, R⟩ := fun G σ H v hh r => by
  obtain ⟨p, kvs, rfl, a, _⟩ := hh.seeDT r sd.see
  exact ⟨p, rfl, .inr ⟨kvs, a⟩⟩
/-- what d has at y -/
def GetD (F : Fr) (d y : D) (Γ : DL.Env) (Q : Option D → DL.Env → Prop) : Prop := ∃ r, Q r Γ ∧ ∀ G σ H v1 v2, Holds F G Γ σ H → Rep G v1 d → Rep G v2 y → ∃ a o, v1 = .ref a ∧ DGet H a v2 o ∧ ((o = none ∧ r = none) ∨ ∃ v x, o = some v ∧ r = some x ∧ Rep G v x)
theorem getD_K {Q : Option D → DL.Env → Prop} {d y : D} {kds : List (Key × D)} {k : Key} [sd : SeeK M R d kds] [ky : KeyAs y k] (q : Q (lookD kds k) ⟨sl, M, R⟩) : GetD F d y ⟨sl, M, R⟩ Q := ⟨_, q, fun G σ H v1 v2 hh r1 r2 => by
  obtain ⟨p, kvs, rfl, a, e1, e2⟩ := hh.seeK r1 sd.see
  rw [ky.e] at r2
  have e3 := r2.kD_inv
  exact ⟨p, valV kvs k, rfl, .inl ⟨kvs, k, a, e3, rfl⟩, look_rep k e1 e2⟩⟩
theorem getD_T {Q : Option D → DL.Env → Prop} {d y : D} {kds : List (List Key × D)} {k : List Key} [sd : SeeDT M R d kds] [ky : KeyTAs y k] (q : Q (lookD kds k) ⟨sl, M, R⟩) : GetD F d y ⟨sl, M, R⟩ Q := ⟨_, q, fun G σ H v1 v2 hh r1 r2 => by
  obtain ⟨p, kvs, rfl, a, e1, e2⟩ := hh.seeDT r1 sd.see
  rw [ky.e] at r2
  obtain ⟨b, vs, rfl, hb, hv⟩ := r2.tup_inv
  rw [hv.kD_inv] at hb
  exact ⟨p, valV kvs k, rfl, .inr ⟨kvs, k, b, a, rfl, hh.gh _ _ hb, rfl⟩, look_rep k e1 e2⟩⟩
theorem we_get1 {o e : Expr} {apos cpos : Pos} (hX : Std X) (m : M1 X o "get" apos e cpos) (h : WE X F o Γ fun d Γ1 => IsDD F d Γ1 ∧ WE X F e Γ1 fun y Γ2 => GetD F d y Γ2 fun r Γ3 => Q (r.getD .non) Γ3) : WE X F (.Call (.Attribute o "get" apos) [e] [] cpos) Γ Q := fun G σ H hh K hK => by
  refine tU_of (pe_dget1 hX.hu1 pe_U pe_U m) (h G σ H hh _ fun d Γ1 G1 v1 H1 ⟨q1, q2⟩ s1 h1 r1 => ?_)
  obtain ⟨a, rfl, ia⟩ := q1 G1 σ H1 v1 h1 r1
  refine ⟨a, rfl, ia, q2 G1 σ H1 h1 _ fun y Γ2 G2 v2 H2 ⟨r, q, g⟩ s2 h2 r2 => ?_⟩
  obtain ⟨a', o', e1, dg, rr⟩ := g G2 σ H2 _ v2 h2 (r1.mono s2) r2
  cases e1
  refine ⟨o', dg, ?_⟩
  rcases rr with ⟨rfl, rfl⟩ | ⟨v, x, rfl, rfl, rv⟩
  · exact hK _ _ G2 _ _ q (s1.trans s2) h2 .non
  · exact hK _ _ G2 _ _ q (s1.trans s2) h2 rv
theorem we_get2 {o e f : Expr} {apos cpos : Pos} (hX : Std X) (m : M2 X o "get" apos e f cpos) (h : WE X F o Γ fun d Γ1 => IsDD F d Γ1 ∧ WE X F e Γ1 fun y Γ2 => WE X F f Γ2 fun z Γ3 => GetD F d y Γ3 fun r Γ4 => Q (r.getD z) Γ4) : WE X F (.Call (.Attribute o "get" apos) [e, f] [] cpos) Γ Q := fun G σ H hh K hK => by
  refine tU_of (pe_dget2 hX.hu1 pe_U pe_U pe_U m) (h G σ H hh _ fun d Γ1 G1 v1 H1 ⟨q1, q2⟩ s1 h1 r1 => ?_)
  obtain ⟨a, rfl, ia⟩ := q1 G1 σ H1 v1 h1 r1
  refine ⟨a, rfl, ia, q2 G1 σ H1 h1 _ fun y Γ2 G2 v2 H2 q3 s2 h2 r2 => q3 G2 σ H2 h2 _ fun z Γ3 G3 v3 H3 ⟨r, q, g⟩ s3 h3 r3 => ?_⟩
  obtain ⟨a', o', e1, dg, rr⟩ := g G3 σ H3 _ v2 h3 (r1.mono (s2.trans s3)) (r2.mono s3)
  cases e1
  refine ⟨o', dg, ?_⟩
  rcases rr with ⟨rfl, rfl⟩ | ⟨v, x, rfl, rfl, rv⟩
  · exact hK _ _ G3 _ _ q ((s1.trans s2).trans s3) h3 r3
  · exact hK _ _ G3 _ _ q ((s1.trans s2).trans s3) h3 rv
/-- d.pop(k) -/
theorem drop_rep {G : Hp} (k : Key) : ∀ {kvs : List (Key × V)} {kds : List (Key × D)}, kvs.map (·.1) = kds.map (·.1) → Reps G (kvs.map (·.2)) (kds.map (·.2)) →
    (dropK kvs k).map (·.1) = (dropD kds k).map (·.1) ∧ Reps G ((dropK kvs k).map (·.2)) ((dropD kds k).map (·.2))
  | [], [], _, _ => ⟨rfl, Reps.nil⟩
  | [], _ :: _, h, _ => by simp at h
  | _ :: _, [], h, _ => by simp at h
  | (a, w) :: kvs, (b, e) :: kds, h, r => by
    have h1 : a = b := by simpa using (List.cons.inj h).1
    subst h1
    have rh : Rep G w e := Reps.head (vs := kvs.map Prod.snd) (ds := kds.map Prod.snd) r
    have rt : Reps G (kvs.map (·.2)) (kds.map (·.2)) := Reps.tail (v := w) (d := e) r
    obtain ⟨i1, i2⟩ := drop_rep k (List.cons.inj h).2 rt
    by_cases ek : a = k
    · have f1 : dropK ((a, w) :: kvs) k = dropK kvs k := by unfold dropK; rw [List.filter_cons_of_neg (by simp [ek])]
      have f2 : dropD ((a, e) :: kds) k = dropD kds k := by unfold dropD; rw [List.filter_cons_of_neg (by simp [ek])]
      rw [f1, f2]
      exact ⟨i1, i2⟩
    · have f1 : dropK ((a, w) :: kvs) k = (a, w) :: dropK kvs k := by unfold dropK; rw [List.filter_cons_of_pos (by simp [ek])]
      have f2 : dropD ((a, e) :: kds) k = (a, e) :: dropD kds k := by unfold dropD; rw [List.filter_cons_of_pos (by simp [ek])]
      rw [f1, f2]
      exact ⟨by rw [List.map_cons, List.map_cons, i1], Reps.cons rh i2⟩
def PopD (F : Fr) (d y : D) (Γ : DL.Env) (Q : D → DL.Env → Prop) : Prop := ∃ (p : Addr) (kds : List (Key × D)) (k : Key) (x : D) (j : Nat), d = .ref p ∧ Γ.M[j]? = some (p, .dK kds) ∧ y = kD k ∧ lookD kds k = some x ∧ Q x ⟨Γ.sl, Γ.M.set j (p, .dK (dropD kds k)), Γ.R⟩
theorem popD_go {p : Addr} {y x : D} {kds : List (Key × D)} {k : Key} {j : Nat} {M' : Mem} [a : At M p (.dK kds) j] [ky : KeyAs y k] [t : SetM M j (p, .dK (dropD kds k)) M'] (hx : lookD kds k = some x) (q : Q x ⟨sl, M', R⟩) : PopD F (.ref p) y ⟨sl, M, R⟩ Q :=
  ⟨p, kds, k, x, j, rfl, a.e, ky.e, hx, by rw [t.e] at q; exact q⟩
theorem we_pop1 {o e : Expr} {apos cpos : Pos} (m : M1 X o "pop" apos e cpos) (h : WE X F o Γ fun d Γ1 => IsDD F d Γ1 ∧ WE X F e Γ1 fun y Γ2 => PopD F d y Γ2 Q) : WE X F (.Call (.Attribute o "pop" apos) [e] [] cpos) Γ Q := fun G σ H hh K hK => by
  refine tU_of (pe_dpop1 pe_U pe_U m) (h G σ H hh _ fun d Γ1 G1 v1 H1 ⟨q1, q2⟩ s1 h1 r1 => ?_)
  obtain ⟨a, rfl, ia⟩ := q1 G1 σ H1 v1 h1 r1
  refine ⟨a, rfl, ia, q2 G1 σ H1 h1 _ fun y Γ2 G2 v2 H2 ⟨p, kds, k, x, j, e1, e2, e3, e4, q⟩ s2 h2 r2 => ?_⟩
  subst e1
  cases r1
  subst e3
  obtain ⟨_, _, u, hu, hs⟩ := h2.mem.at_ _ (List.mem_of_getElem? e2)
  obtain ⟨kvs, rfl, f1, f2⟩ := hs.dK_inv
  rcases look_rep k f1 f2 with ⟨_, z⟩ | ⟨v, x', g1, g2, rv⟩
  · rw [e4] at z; cases z
  · rw [e4] at g2; cases g2
    obtain ⟨d1, d2⟩ := drop_rep k f1 f2
    exact ⟨kvs, k, v, hu, r2.kD_inv, g1, hK _ _ G2 _ _ q (s1.trans s2) (h2.write e2 (.dK d1 d2)) rv⟩
end
end DL

/-! The D layer, part 18: texts. -/
namespace DL
open PySem PySem.Spec PyProof.Rows L2
section
variable {X : Cx} {F : Fr} {Γ : DL.Env} {sl : List (Option D)} {M R : Mem} {Q : D → DL.Env → Prop} {z w : Str} {ea eb : Expr}
/-- a sign of a text, whichever it is -/
theorem wx_strN {i : Int} (hz : z.length ≤ sizeLine) (h0 : 0 ≤ i) (h1 : i < z.length) (q : ∀ c : Nat, z.cps.toList[i.toNat]? = some c → Q (.str ⟨#[c]⟩) Γ) : WX X F ea eb (.str z) (.int i) Γ Q := by
  obtain ⟨c, e1, e2⟩ := atI_in (xs := z.cps.toList) h0 (by
    rw [Array.length_toList]; exact h1)
  exact wx_str hz e1 (q c e2)
theorem wsl_txt {lo hi : Option Int} (hz : z.length ≤ sizeLine) (q : Q (.str (Txt.slice z lo hi)) Γ) : WSl X F (.str z) lo hi Γ Q := wsl_of C8.sl_txt fun G σ H x hh rx K hK => ⟨z, rx.str_inv, hz, hK.here hh q (.str _)⟩
theorem wm_join {d : D} {ys : List Str} [sd : SeeQ M R d (ys.map D.str)] (hz : (ys.map (·.length)).sum + ys.length * z.length ≤ 16777216) (q : Q (.str (Txt.join z ys)) ⟨sl, M, R⟩) : WM X F "str.join" (.str z) [d] ⟨sl, M, R⟩ Q := wm_of mt_join fun G σ H x xs hh r1 r2 K hK => by
  obtain ⟨v, rfl, r⟩ := r2.one
  rcases sd.see with s | s
  · obtain ⟨p, vs, rfl, hS, hr⟩ := hh.seeL (K := X.K) r s
    rw [reps_strs hr] at hS
    exact ⟨z, p, ys, r1.str_inv, rfl, .inl hS, hz, hK.here hh q (.str _)⟩
  · obtain ⟨p, vs, rfl, hS, hr⟩ := hh.seeT (K := X.K) r s
    rw [reps_strs hr] at hS
    exact ⟨z, p, ys, r1.str_inv, rfl, .inr hS, hz, hK.here hh q (.str _)⟩
theorem wm_sindex {i : Nat} {rest : List Nat} (ho : Builtin.Str.occurrences z w 0 z.length 1 = i :: rest) (q : Q (.int (i : Nat)) Γ) : WM X F "str.index" (.str z) [.str w] Γ Q := wm_of mt_sindex fun G σ H x xs hh r1 r2 K hK => by
  obtain ⟨v, rfl, r⟩ := r2.one
  exact ⟨z, w, i, rest, r1.str_inv, by rw [r.str_inv], ho, hK.here hh q (.int _)⟩
theorem wm_starts (q : Q (.bl (Txt.startswith z w)) Γ) : WM X F "str.startswith" (.str z) [.str w] Γ Q := wm_of mt_startswith fun G σ H x xs hh r1 r2 K hK => by
  obtain ⟨v, rfl, r⟩ := r2.one
  exact ⟨z, w, r1.str_inv, by rw [r.str_inv], hK.here hh q (.bl _)⟩
theorem wo_inS (q : Q (.bl (!(Builtin.Str.occurrences w z 0 w.length 1).isEmpty)) Γ) : WO X F (compareOp .In) (.str z) (.str w) Γ Q := wo_of op_in_str fun G σ H x y hh r1 r2 K hK => ⟨z, w, r1.str_inv, r2.str_inv, hK.here hh q (.bl _)⟩
theorem wo_ninS (q : Q (.bl (!(!(Builtin.Str.occurrences w z 0 w.length 1).isEmpty))) Γ) : WO X F (compareOp .NotIn) (.str z) (.str w) Γ Q := wo_of op_notin_str fun G σ H x y hh r1 r2 K hK => ⟨z, w, r1.str_inv, r2.str_inv, hK.here hh q (.bl _)⟩
variable {K : List D → (DL.Env → Prop) → DL.Env → Prop} {tg : Expr}
/-- for c in text -/
theorem wiv_str (h : K (z.cps.toList.map fun c => .str ⟨#[c]⟩) (fun _ => True) Γ) : WIV X F tg (.str z) Γ K := fun G σ H x hh r Q hQ pins s v I rv => by
  rw [r.str_inv] at rv
  obtain ⟨t, rfl⟩ := rv
  have it : ItSem F G (Its z) (z.cps.toList.map fun c => D.str ⟨#[c]⟩) fun _ => True := fun Γ' G' σ' H' sg h' _ => by
    refine ⟨by show z.cps.size ≤ _; rw [List.length_map, Array.length_toList]; exact Nat.le_refl _, fun i y hy => ?_⟩
    rw [List.getElem?_map] at hy
    obtain ⟨c, e1, rfl⟩ := Option.map_eq_some_iff.mp hy
    have e2 : z.cps[i]? = some c := by simpa using e1
    refine ⟨(Array.getElem?_eq_some_iff.mp e2).1, fun u H'' ⟨q1, c2, q2, q3⟩ => ⟨G', Same.refl G', by rw [q1]; exact h', ?_⟩⟩
    rw [e2] at q2
    cases q2
    rw [q3]; exact .str _
  cases ha : z.cps.all (· < 128)
  · exact wpAny_pyIter_wide ha (pi_one (tk := s.toks) I _ (turn_str _ z t "str_iterator" (.inr rfl)) ⟨_, Heap.get?_push_size _ rfl, rfl, rfl⟩ (hQ _ _ _ G H _ h (Same.refl G) hh it))
  · exact wpAny_pyIter_ascii ha (pi_one (tk := s.toks) I _ (turn_str _ z t "str_ascii_iterator" (.inl rfl)) ⟨_, Heap.get?_push_size _ rfl, rfl, rfl⟩ (hQ _ _ _ G H _ h (Same.refl G) hh it))
end
end DL

/-! The D layer, part 19: sorted(d), d a dict of ints or texts. -/
namespace DL
open PySem PySem.Spec PyProof.Rows L2 PySem.W
section
variable {X : Cx} {F : Fr} {sl : List (Option D)} {M R : Mem} {Q : D → DL.Env → Prop}
theorem each_at {P : Program} {w : World} : ∀ {us : List Value} {ks : List Key}, us.length = ks.length → (∀ (i : Nat) v, us[i]? = some v → ∃ k, ks[i]? = some k ∧ (mixKind P w).is k v = true) → EachIs (fun v k => (mixKind P w).is k v = true) us ks
  | [], [], _, _ => .nil
  | [], _ :: _, e, _ => by cases e
  | _ :: _, [], e, _ => by cases e
  | u :: us, k :: ks, e, h => by
    obtain ⟨k', e1, e2⟩ := h 0 u rfl
    cases e1
    exact .cons e2 (each_at (by simpa using e) fun i v hv => h (i + 1) v (by simpa using hv))
theorem call_sortedDk (calm : X.calm = true) (hu : X.A.units + 64 < cLine) : CallR X (.builtin "sorted") (fun vs H Q => ∃ (a : Addr) (kvs : List (Key × V)), vs = [.ref a] ∧ Rd H a (.dK kvs) ∧ (∀ j ∈ kvs, ∀ k ∈ kvs, alike (dat (kD j.1)) (dat (kD k.1)) = true) ∧ ∀ p : Addr, H p = none → Q (.ref p) (upd H p (.lst (((kvs.map (·.1)).mergeSort leK).map kV)))) := by
  intro pins s σ H xs us Q I r q
  obtain ⟨a, kvs, rfl, hd, hal, q⟩ := q
  rw [Vals.ref1 r]
  obtain ⟨z, lo, vs, rel, dd⟩ := dk_rd I.hok hd
  obtain ⟨ep, hat⟩ := dd.dictAt
  have ek : vs.map (·.1) = kvs.map (·.1) := rel.keys.symm
  have len : vs.length = kvs.length := by have := congrArg List.length ek; simpa using this
  have small : vs.length ≤ sizeLine := len ▸ z
  refine Calls.call_function_entry PyProof.Rows.kind_sorted PyProof.Rows.plain_sorted PyProof.Rows.entry_sorted (PyProof.Rows.args_sorted1 _) ?_
  unfold Builtin.«sorted»
  refine wpAny_bind (m := checkCount "sorted" 1 1 _) (wpAny_pure (wpAny_bind (kdu_collect (A := X.A.in1) (kdl_dict (knd := mixKind X.prog X.w) (kvs := vs) (ep := ep) lo) (I.ok.hd calm) hat small fun h1 tk acc old got => ?_)))
  have len2 : acc.toList.length = (kvs.map (·.1)).length := by rw [Array.length_toList, got.1, len, List.length_map]
  have ey : EachIs (fun v k => (mixKind X.prog X.w).is k v = true) acc.toList (kvs.map (·.1)) := each_at len2 fun i v hv => by
    obtain ⟨k, x, e1, e2⟩ := got.2 i v (by rw [← Array.getElem?_toList]; exact hv)
    refine ⟨k, ?_, e2⟩
    rw [← ek, List.getElem?_map, e1]; rfl
  have I1 : Inv X pins σ H { s with heap := h1, toks := tk } := I.kept old
  have small2 : acc.toList.length ≤ sizeLine := by rw [len2, List.length_map, ← len]; exact small
  refine wpAny_bind (wpAny_newList ?_ small2)
  have new : (h1.push (seqObj "list" acc.toList.toArray 0)).get? h1.objs.size = some (seqObj "list" acc.toList.toArray 0) := Heap.get?_push_size _ rfl
  show wpAny _ _ _ _ _ { s with heap := h1.push (seqObj "list" acc.toList.toArray 0), toks := tk }
  refine wpAny_bind (wpAny_holding (thn (Q := fun v s2 => ∃ out : List Value, v = .none ∧ EachIs (fun v k => (mixKind X.prog X.w).is k v = true) out ((kvs.map (·.1)).mergeSort leK) ∧ s2 = { s with heap := PyProof.Rows.sortedHeap (h1.push (seqObj "list" acc.toList.toArray 0)) h1.objs.size acc.toList out.toArray, toks := tk }) ?_ fun v s2 ⟨out, e1, e2, e3⟩ => ?_))
  · refine list_sort_data (s := { s with heap := h1.push (seqObj "list" acc.toList.toArray 0), toks := tk }) (enc := fun k => dat (kD k)) (R := fun v k => (mixKind X.prog X.w).is k v = true) new ey (each_sel ey fun v k e => ?_) ?_ ?_ (by rw [← len2]; exact small2) (fun k _ => ?_) fun out _ eo => ⟨out, rfl, eo, rfl⟩
    · rcases keyIs_shape e with ⟨i, t, rfl, rfl⟩ | ⟨x, t, rfl, rfl⟩
      · exact ⟨[], .int i t, by simp⟩
      · exact ⟨[], .str x t, by simp⟩
    · intro d hd d2 hd2
      rw [List.map_map] at hd hd2
      obtain ⟨j, hj, rfl⟩ := List.mem_map.mp hd
      obtain ⟨k, hk, rfl⟩ := List.mem_map.mp hd2
      exact hal j hj k hk
    · refine .inr fun d hd => ?_
      obtain ⟨j, _, rfl⟩ := List.mem_map.mp hd
      cases j with
      | inl i => exact ⟨by simp [kD, dat], fun xs => by simp [kD, dat]⟩
      | inr x => exact ⟨by simp [kD, dat], fun xs => by simp [kD, dat]⟩
    · have : (dat (kD k)).depth = 0 := by cases k <;> rfl
      rw [this]
      show X.A.units + 1 + 1 + 0 < cLine
      omega
  · subst e1; subst e3
    obtain ⟨c, hc⟩ := PyProof.Rows.sortedHeap_at (vs := acc.toList) (out := out.toArray) new
    have vals : ∀ {us : List Value} {zs : List Key}, EachIs (fun v k => (mixKind X.prog X.w).is k v = true) us zs → Vals (zs.map kV) us := by
      intro us zs e
      induction e with
      | nil => exact .nil
      | cons h _ ih => exact .cons (keyIs_rel h) ih
    have fit : (((kvs.map (·.1)).mergeSort leK).map kV).length ≤ sizeLine := by
      rw [List.length_map, List.length_mergeSort, List.length_map]; exact z
    refine wpAny_pure ⟨_, rfl, .ref h1.objs.size, upd H h1.objs.size (.lst (((kvs.map (·.1)).mergeSort leK).map kV)), I1.laid (t' := tk) (fun b u e => ?_) (Nat.le_refl _) ⟨fit, out, c, vals e2, by simpa using hc⟩, rfl, q _ (I1.hok.fresh (Nat.le_refl _))⟩
    have lb : b < h1.objs.size := Heap.lt_size e
    rw [PyProof.Rows.sortedHeap_old (Nat.ne_of_lt lb) (by rw [size_push']; exact Nat.lt_succ_of_lt lb)]
    exact Heap.get?_push_of_some _ e
/-- sorted(d): the keys, by the Lean values (hk tells how the keys are encoded) -/
theorem wc_sortedK {α : Type} {f : α → D} {lt : α → α → Bool} {n : Nat} {g : α → Key} {d : D} {kds : List (Key × D)} {xs : List α} [sd : SeeK M R d kds] [hf : DOrd f lt n] [kg : KeyEnc f g] (hX : Std X) (hk : kds.map (·.1) = xs.map g)
    (q : ∀ p, Q (.ref p) ⟨sl, (p, .lst ((srt lt xs).map f)) :: M, R⟩) : WC X F (.builtin "sorted") [d] ⟨sl, M, R⟩ Q := wc_of (call_sortedDk hX.calm hX.hu) fun G σ H vs hh rr K hK => by
  obtain ⟨v, rfl, r⟩ := rr.one
  obtain ⟨p, kvs, rfl, hd, e1, e2⟩ := hh.seeK r sd.see
  have ek : kvs.map (·.1) = xs.map g := e1.trans hk
  refine ⟨p, kvs, rfl, hd, fun j hj k hk2 => ?_, fun a ha => ?_⟩
  · have h1 : j.1 ∈ xs.map g := ek ▸ List.mem_map_of_mem hj
    have h2 : k.1 ∈ xs.map g := ek ▸ List.mem_map_of_mem hk2
    obtain ⟨b, _, e3⟩ := List.mem_map.mp h1
    obtain ⟨c, _, e4⟩ := List.mem_map.mp h2
    rw [← e3, ← e4, ← kg.e, ← kg.e]
    exact hf.al b c
  · have es : ((kvs.map (·.1)).mergeSort leK) = (srt lt xs).map g := by
      rw [ek]
      refine (List.map_mergeSort (r := fun a b => !lt b a) (s := leK) (f := g) (l := xs) (fun a _ b _ => ?_)).symm
      show (!lt b a) = leD (kD (g a)) (kD (g b))
      rw [← kg.e, ← kg.e, hf.leD]
    rw [es]
    have em : (srt lt xs).map f = ((srt lt xs).map g).map kD := by
      rw [List.map_map]
      exact List.map_congr_left fun a _ => kg.e a
    refine hK _ _ G _ _ (q a) (Same.refl G) (hh.newOwn ha (.lst ?_)) (.ref a)
    rw [em]
    exact kv_reps _
end
end DL

/-! The D layer, part 20: small helps. -/
namespace DL
open PySem PySem.Spec PyProof.Rows L2
/-- the side of ws_setLc' (an assignment of a comprehension): (nm.swaps (by decide +kernel)) -/
theorem Nm.swaps {X : Cx} {N : List Str} {sc : Scope} (nm : Nm X N sc) {elt : Expr} {gs : List Comprehension} {scope : Scope} {pos py : Pos} {y : Str} {line : Nat} (h : ((if sc.kind.isAnnotationScope then ScopeKind.function else sc.kind) == .function && sc.names.lookup y == some .local && py.line == pos.line && !(scope.names.any fun (n, k) => n == y && (k == .local || k == .cell))) = true) :
    swapsWith (.ListComp elt gs scope pos) (some (.Name y py)) line X.env = pure true := by
  have e : X.env.scope = sc := nm.sc
  subst e
  exact congrArg pure h
end DL

set_option maxHeartbeats 2000000
/-! The D layer, part 21: set comprehensions of ints and texts; sorted of them. -/
namespace DL
open PySem PySem.Spec PyProof.Rows L2

/-! ### a thing that stands beside the environment -/
section
variable {F : Fr} {G : Hp} {Γ : DL.Env} {σ : L2.St} {H : Hp} {D : Addr} {o o' : HO}
theorem Holds.beside (h : Holds F G Γ σ H) (hD : H D = none) : Holds ⟨upd F.B D o, F.G0⟩ G Γ σ (upd H D o) := by
  have hB : F.B D = none := h.bh.free hD
  have hG : G D = none := h.gh.free hD
  have h0 : F.G0 D = none := h.gb.free hB
  have up : ∀ {A : Hp} {b : Addr} {u : HO}, A D = none → A b = some u → upd A D o b = some u := fun {A b u} z e => by
    rw [upd_ne (ne_of_none e z)]; exact e
  refine ⟨h.g0, fun b u e => ?_, fun b u e => ?_, fun b u e => up hB (h.gb _ _ e), fun b u e => ?_, h.len, h.sl, ⟨h.mem.nd, fun q hq => ?_⟩, fun q hq => ?_⟩
  · rw [upd_ne (ne_of_none e hG)]; exact h.gh _ _ e
  · by_cases hb : b = D
    · subst hb
      have e2 : upd F.B b o b = some u := e
      rw [upd_same] at e2 ⊢; exact e2
    · have e2 : upd F.B D o b = some u := e
      rw [upd_ne hb] at e2 ⊢; exact h.bh _ _ e2
  · rcases h.nw b u e with z | z | z
    · exact .inl z
    · refine .inr (.inl ?_)
      show upd F.B D o b = none
      rw [upd_ne (ne_of_none e hG)]; exact z
    · exact .inr (.inr z)
  · obtain ⟨a, b, u, c, d⟩ := h.mem.at_ q hq
    have ne : q.1 ≠ D := ne_of_none c hD
    refine ⟨?_, b, u, ?_, d⟩
    · show upd F.B D o q.1 = none
      rw [upd_ne ne]; exact a
    · rw [upd_ne ne]; exact c
  · obtain ⟨u, a, b⟩ := h.rd q hq
    refine ⟨u, ?_, b⟩
    rcases a with a | ⟨z, a⟩
    · exact .inl (up hB a)
    · exact .inr ⟨z, up hB a⟩
theorem Holds.besideG (hB : F.B D = none) (hg : Same F.G0 F.B) (ho : ∀ vs, o ≠ .tup vs) (h : Holds ⟨upd F.B D o, F.G0⟩ G Γ σ H) : G D = none ∧ H D = some o := by
  have hH : H D = some o := h.bh _ _ (by show upd F.B D o D = some o; exact upd_same)
  refine ⟨?_, hH⟩
  cases e : G D with
  | none => rfl
  | some u =>
    rcases h.nw _ _ e with z | z | ⟨vs, z⟩
    · have z2 : F.G0 D = some u := z
      rw [hg.free hB] at z2; cases z2
    · have z2 : upd F.B D o D = none := z
      rw [upd_same] at z2; cases z2
    · have e2 := h.gh _ _ e
      rw [hH, z] at e2
      cases e2
      exact absurd rfl (ho vs)
theorem Holds.besideTo (hB : F.B D = none) (hg : Same F.G0 F.B) (hR : ∀ q ∈ Γ.R, q.1 ≠ D) (ho : ∀ vs, o ≠ .tup vs) (h : Holds ⟨upd F.B D o, F.G0⟩ G Γ σ H) : Holds ⟨upd F.B D o', F.G0⟩ G Γ σ (upd H D o') := by
  obtain ⟨hG, hH⟩ := h.besideG hB hg ho
  have tr : ∀ {b : Addr} {u : HO}, b ≠ D → upd F.B D o b = some u → upd F.B D o' b = some u := fun {b u} ne e => by
    rw [upd_ne ne] at e ⊢; exact e
  refine ⟨h.g0, fun b u e => ?_, fun b u e => ?_, fun b u e => ?_, fun b u e => ?_, h.len, h.sl, ⟨h.mem.nd, fun q hq => ?_⟩, fun q hq => ?_⟩
  · rw [upd_ne (ne_of_none e hG)]; exact h.gh _ _ e
  · by_cases hb : b = D
    · subst hb
      have e2 : upd F.B b o' b = some u := e
      rw [upd_same] at e2 ⊢; exact e2
    · have e2 : upd F.B D o' b = some u := e
      rw [upd_ne hb] at e2 ⊢
      refine h.bh _ _ ?_
      show upd F.B D o b = some u
      rw [upd_ne hb]; exact e2
  · have ne : b ≠ D := ne_of_none e (hg.free hB)
    show upd F.B D o' b = some u
    rw [upd_ne ne]; exact hg _ _ e
  · rcases h.nw b u e with z | z | z
    · exact .inl z
    · have z2 : upd F.B D o b = none := z
      have ne : b ≠ D := ne_of_none e hG
      rw [upd_ne ne] at z2
      refine .inr (.inl ?_)
      show upd F.B D o' b = none
      rw [upd_ne ne]; exact z2
    · exact .inr (.inr z)
  · obtain ⟨a, b, u, c, d⟩ := h.mem.at_ q hq
    have a2 : upd F.B D o q.1 = none := a
    have ne : q.1 ≠ D := fun z => by rw [z, upd_same] at a2; cases a2
    rw [upd_ne ne] at a2
    refine ⟨?_, b, u, ?_, d⟩
    · show upd F.B D o' q.1 = none
      rw [upd_ne ne]; exact a2
    · rw [upd_ne ne]; exact c
  · obtain ⟨u, a, b⟩ := h.rd q hq
    refine ⟨u, ?_, b⟩
    rcases a with a | ⟨z, a⟩
    · exact .inl (tr (hR q hq) a)
    · exact .inr ⟨z, tr (hR q hq) a⟩
theorem Holds.besideOff (hB : F.B D = none) (hg : Same F.G0 F.B) (hR : ∀ q ∈ Γ.R, q.1 ≠ D) (h : Holds ⟨upd F.B D o, F.G0⟩ G Γ σ H) : Holds F G Γ σ H := by
  have tr : ∀ {b : Addr} {u : HO}, b ≠ D → upd F.B D o b = some u → F.B b = some u := fun {b u} ne e => by
    rw [upd_ne ne] at e; exact e
  refine ⟨h.g0, h.gh, fun b u e => ?_, hg, fun b u e => ?_, h.len, h.sl, ⟨h.mem.nd, fun q hq => ?_⟩, fun q hq => ?_⟩
  · refine h.bh _ _ ?_
    show upd F.B D o b = some u
    rw [upd_ne (ne_of_none e hB)]; exact e
  · rcases h.nw b u e with z | z | z
    · exact .inl z
    · refine .inr (.inl ?_)
      have z2 : upd F.B D o b = none := z
      by_cases hb : b = D
      · rw [hb]; exact hB
      · rw [upd_ne hb] at z2; exact z2
    · exact .inr (.inr z)
  · obtain ⟨a, r⟩ := h.mem.at_ q hq
    refine ⟨?_, r⟩
    have a2 : upd F.B D o q.1 = none := a
    by_cases hb : q.1 = D
    · rw [hb]; exact hB
    · rw [upd_ne hb] at a2; exact a2
  · obtain ⟨u, a, b⟩ := h.rd q hq
    refine ⟨u, ?_, b⟩
    rcases a with a | ⟨z, a⟩
    · exact .inl (tr (hR q hq) a)
    · exact .inr ⟨z, tr (hR q hq) a⟩
end

/-! ### set.add -/
section
variable {X : Cx}
theorem stO_ok {P : Program} {w : World} {H : Hp} {h : Heap} {a : Addr} {ks : List Key} (m : KSet (mixKind P w) h a ks) : ObjOk P w H h a (stO P w a ks) := by
  refine ⟨m, ?_, fun h1 h2 m e => m.stay e⟩
  obtain ⟨⟨o, _, _, _, ⟨e, _⟩, _⟩, _⟩ := m
  exact ⟨o, e⟩
theorem stO_nt (P : Program) (w : World) (a : Addr) (ks : List Key) (vs : List V) : stO P w a ks ≠ .tup vs := fun z => by cases z
theorem add_key {pins : List (Addr × Obj)} {σ : L2.St} {H : Hp} {s : Shared} {E : Value → Shared → Prop} {D : Addr} {ks : List Key} {k : Key} {v : Value} {Q : Value → Shared → Prop} (I : Inv X pins σ H s) (hD : H D = some (stO X.prog X.w D ks)) (rv : RelV (kV k) v) (room : ks.length + 1 < scanBound)
    (h : ∀ s', Inv X pins σ (upd H D (stO X.prog X.w D (addK k ks))) s' → Q .none s') : wpAny (model X.prog X.w) X.A (call (.builtin "set.add") [.ref D, v]) Q E s := by
  have m : KSet (mixKind X.prog X.w) s.heap D ks := (I.hok D _ hD).1
  have ik : (mixKind X.prog X.w).is k v = true ∧ v.scannable = true := by
    cases k with
    | inl j => obtain ⟨t, rfl⟩ := rv; exact ⟨mixKind_int _ _ j t, rfl⟩
    | inr x => obtain ⟨t, rfl⟩ := rv; exact ⟨mixKind_str _ _ x t, rfl⟩
  have ty : s.TypeIs (.ref D) "set" := by
    obtain ⟨⟨o, _, _, _, ⟨e, x, _⟩, _⟩, _⟩ := m
    exact ⟨o, e, x.1⟩
  refine wpAny_call_entry F.slot_set_add ty F.entry_set_add ?_ (F.args_set_add_2 _ _)
  simp only [Builtin.«set.add», Builtin.Frozenset.oneOther, List.isEmpty_nil, bind_assoc]
  simp only [Builtin.Frozenset.addrOf, setAdd]
  refine wpAny_bind (wpAny_pure ?_); try dsimp only
  refine wpAny_bind (wpAny_pure ?_); try dsimp only
  refine wpAny_bind (wpAny_holding (wpAny_bind ((mixKind X.prog X.w).pyHash ik.1 ?_)))
  refine setM_add (s := { s with toks := s.toks + 1 }) m ik.1 ik.2 room fun hx sb m2 => ?_
  show wpAny _ _ (ret Value.none) _ _ _
  refine wpAny_pure ⟨_, rfl, h _ ?_⟩
  refine I.write (e := D) (t' := s.toks + 1) (by rw [hD]; trivial) (.inl rfl) (fun b u hb hu => (sb.2 b hb).trans hu) ?_ (stO_ok m2)
  obtain ⟨⟨o, _, _, _, ⟨e, _⟩, _⟩, _⟩ := m2
  exact ⟨o, e⟩
end
/-! ### the comprehension -/
section
variable {X : Cx}
/-- {elt for tg in iter if ..}: what it is asked, D the new set -/
def tSk (P : Program) (w : World) (wi : TI) (g : TG) (tt : TT) (te : TE) (vs : List Nat) : TE := fun σ H Q => wi σ H fun J H1 => ∀ D, H1 D = none →
  ∃ W : Nat → Nat → Hp → Prop, (∃ m, W 0 m (upd H1 D (stO P w D []))) ∧ ∀ i m H, W i m H →
    (J.stop i H ∧ Q (.ref D) H) ∨ (J.go i H ∧ ∃ Nx : Hp → Prop, (∀ H', Nx H' → ∃ m', m' < m ∧ W (i + 1) m' H') ∧
      ∀ x H', J.yld i H x H' → g x (wipe σ vs) H' fun σ2 H2 => wipe σ2 vs = wipe σ vs ∧ tt σ2 H2 fun b H3 =>
        if b = true then te σ2 H3 fun y H4 => ∃ (k : Key) (ks : List Key), y = kV k ∧ H4 D = some (stO P w D ks) ∧ ks.length + 1 < scanBound ∧ Nx (upd H4 D (stO P w D (addK k ks))) else Nx H3)
theorem pe_sk {elt tg iter : Expr} {ifs : List Expr} {scope : Scope} {own : List (PySem.Str × Nat)} {pos : Pos} {wi : TI} {g : TG} {tt : TT} {te : TE} (calm : X.calm = true) (nodup : X.N.Nodup) (hi : PI X tg iter wi) (ok : BlkOk X.N X.env.scope scope own)
    (gs : ∀ (z : Shared) (Hz : Hp) (C : Addr) (cl : List (PySem.Str × Addr)) (fp : List Addr), PG (X.blk z Hz scope (compEnvC scope cl C X.env) fp) tg g)
    (ts : ∀ (z : Shared) (Hz : Hp) (C : Addr) (cl : List (PySem.Str × Addr)) (fp : List Addr), PTs (X.blk z Hz scope (compEnvC scope cl C X.env) fp) ifs tt)
    (es : ∀ (z : Shared) (Hz : Hp) (C : Addr) (cl : List (PySem.Str × Addr)) (fp : List Addr), PE (X.blk z Hz scope (compEnvC scope cl C X.env) fp) elt te)
    (plain : ∀ x, foldedSetIterable iter X.env x = pure x) : PE X (.SetComp elt [⟨tg, iter, ifs, 0⟩] scope pos) (tSk X.prog X.w wi g tt te (own.map (·.2))) := by
  refine ⟨fun pins s σ H Q I asked => ?_⟩
  rw [PpSet.eval_SetComp]
  have cells : ∀ y ∈ scope.names, y.2 = .free → ∃ c, X.env.cells.lookup y.1 = some c := fun y hy e => (ok.free y hy e).elim (fun q => I.ok.has _ (.inl q)) fun q => I.ok.has _ (.inr q)
  refine wpAny_comprehension_free rfl plain (closure_ok cells) ok.kind (fun y hy e => by rw [ok.uniq y hy, e]) ?_
  refine thn (hi.run pins s σ H _ I asked) fun xv s1 hx => thn hx fun itv s2 got => ?_
  obtain ⟨it, fp, tn, J, H2, e, I2, T, st2, f2, q⟩ := got
  subst e
  refine PpSet.newSet_ok (newEnv_comp ?_)
  -- the set that is filled
  obtain ⟨D, hD⟩ : ∃ D, s2.heap.objs.size = D := ⟨_, rfl⟩
  rw [hD]
  obtain ⟨W, ⟨m0, w0⟩, turn⟩ := q D (I2.hok.fresh (Nat.le_of_eq hD))
  obtain ⟨s3, hs3⟩ : ∃ z : Shared, z = { s2 with heap := s2.heap.push (freshO X.w) } := ⟨_, rfl⟩
  have keep3 : ∀ b o, s2.heap.get? b = some o → s3.heap.get? b = some o := fun b o e => by rw [hs3]; exact Heap.get?_push_of_some _ e
  have I3 : Inv X pins σ (upd H2 D (stO X.prog X.w D [])) s3 := by
    rw [hs3]
    exact I2.laid (t' := s2.toks) (fun b o e => Heap.get?_push_of_some _ e) (Nat.le_of_eq hD) (stO_ok (kset_fresh (by rw [← hD]; exact Heap.get?_push_size _ rfl)))
  obtain ⟨H3, hH3⟩ : ∃ Z : Hp, Z = upd H2 D (stO X.prog X.w D []) := ⟨_, rfl⟩
  rw [← hH3] at I3 w0
  have small : ∀ b ∈ fp, b < s2.heap.objs.size := fun b hb => by
    obtain ⟨o, z, _⟩ := T.obj _ _ st2 b hb
    exact Heap.lt_size z
  have f3 : ∀ b ∈ fp, FpOk X pins H3 b ∧ b < s3.heap.objs.size := fun b hb => by
    refine ⟨⟨?_, (f2 b hb).2⟩, ?_⟩
    · rw [hH3, upd_ne (by rw [← hD]; exact Nat.ne_of_lt (small b hb))]; exact (f2 b hb).1
    · rw [hs3, Heap.size_push]; exact Nat.lt_succ_of_lt (small b hb)
  have st3 : tn 0 s3.heap := T.keep _ _ _ st2 fun b _ o e => keep3 b o e
  have I4 := block_start I3 ok nodup f3
  obtain ⟨clo, hclo⟩ : ∃ c, c = cellsFrom (s3.heap.objs.size + 1) scope.names (cloFrom X.env.cells scope.names []) := ⟨_, rfl⟩
  rw [← hclo] at I4
  have pg := gs s3 H3 s3.heap.objs.size clo fp
  have pt := ts s3 H3 s3.heap.objs.size clo fp
  have pe := es s3 H3 s3.heap.objs.size clo fp
  obtain ⟨ce, hce⟩ : ∃ c, c = compEnvC scope clo s3.heap.objs.size X.env := ⟨_, rfl⟩
  rw [← hce] at I4 pg pt pe
  have cL : ce.locals = s3.heap.objs.size := by rw [hce]; rfl
  obtain ⟨s4, hs4⟩ : ∃ z : Shared, z = { s3 with heap := pushCells (s3.heap.push { cls := .type "dict", data := .dict #[] }) scope.names } := ⟨_, rfl⟩
  rw [← hs4] at I4
  rw [show ({ s2 with heap := s2.heap.push (freshO X.w) } : Shared) = s3 from hs3.symm, ← hclo]
  suffices goal : codeAny (model X.prog X.w) X.A (.compStart (.SetComp elt [⟨tg, iter, ifs, 0⟩] scope pos) 0 (.ref it) (.ref D) ce) (compPost (model X.prog X.w) X.A X.xe none (EP X pins σ Q) (.ref D) s3.heap.objs.size) s4 by
    rw [hce, hs4] at goal
    exact goal
  have st4 : tn 0 s4.heap := T.keep _ _ _ st3 fun b _ o e => by rw [hs4]; exact pushCells_keeps _ _ _ _ (Heap.get?_push_of_some _ e)
  have nfp : ∀ b ∈ fp, H3 b = none := fun b hb => (f3 b hb).1.1
  have still : ∀ {σ' : L2.St} {H' : Hp} {s' : Shared}, Inv (X.blk s3 H3 scope ce fp) [] σ' H' s' → (∀ b ∈ fp, H' b = none) → ∀ b ∈ fp, FpOk (X.blk s3 H3 scope ce fp) [] H' b := fun {σ' H' s'} I' hn b hb =>
    ⟨hn b hb, (I'.ok.exf b hb).1, I'.ok.exfs b hb, .inl hb, fun x c e => (I'.ok.exf b hb).2 x c e, fun p hp => by simp at hp⟩
  have loop : codeAny (model X.prog X.w) X.A (.compLoop (.SetComp elt [⟨tg, iter, ifs, 0⟩] scope pos) 0 (.ref it) (.ref D) ce) (compPost (model X.prog X.w) X.A X.xe none (EP X pins σ Q) (.ref D) s3.heap.objs.size) s4 := by
    refine PpSet.compLoopS_any (fun n z => ∃ i H', Inv (X.blk s3 H3 scope ce fp) [] (wipe σ (own.map (·.2))) H' z ∧ tn i z.heap ∧ (∀ b ∈ fp, H' b = none) ∧ W i n H') (fun n s5 hI => ?_) m0 ⟨0, H3, I4, st4, nfp, w0⟩
    obtain ⟨i, H5, I5, st5, n5, w5⟩ := hI
    rcases turn i n H5 w5 with ⟨stop, qq⟩ | ⟨go, Nx, hNx, step⟩
    · refine thnF (T.done (X.blk s3 H3 scope ce fp) rfl rfl rfl calm i [] s5 _ H5 (fun _ _ => False) I5 (still I5 n5) st5 stop) fun r s6 ⟨hr, I6⟩ => ?_
      subst hr
      have I7 : Inv X pins σ H5 s6 := I3.call' (ch := fp) I6.os I6.base I6.hok I6.bare fun b hb => by
        obtain ⟨_, a1, a2, a3, a4, a5⟩ := (f3 b hb).1
        exact ⟨a3, a1, a4, a5⟩
      have free : H5 s3.heap.objs.size = none := by
        rw [← cL]; exact I6.free
      obtain ⟨m, hn, _⟩ := I6.loc
      rw [show (X.blk s3 H3 scope ce fp).env.locals = s3.heap.objs.size from cL] at hn
      refine ⟨m, hn, fun h'' sb => ?_⟩
      obtain ⟨b0, b1, b2, b3, b4, b5⟩ := I3.fpOk (Nat.le_refl _) free
      exact ⟨.ref D, H5, I7.turned (t' := s6.toks) (fun b o hb e => (sb.2 b hb).trans e) b0 b1 b3 b4 b5, rfl, qq⟩
    · refine thnF (T.item (X.blk s3 H3 scope ce fp) rfl rfl rfl calm i [] s5 _ H5 (fun _ _ => False) I5 (still I5 n5) st5 go) fun r s6 ⟨u, hr, h6⟩ => ?_
      subst hr
      refine thnF h6 fun _ s7 ⟨x, H7, I7, r7, y7, st7, n7⟩ => ?_
      refine thnF (pg.run _ s7 _ H7 x u _ (I7.pinned (still I7 n7) (T.obj _ _ st7)) r7 (step x H7 y7)) fun _ s8 ⟨σ8, H8, I8, hw8, q8⟩ => ?_
      refine thnF (pt.run _ s8 σ8 H8 _ I8 q8) fun b s9 ⟨H9, I9, q9⟩ => ?_
      have turned : ∀ {z : Shared} {H' : Hp}, Inv (X.blk s3 H3 scope ce fp) ([] ++ pinsAt fp s7.heap) σ8 H' z → Nx H' → ∃ m, m < n ∧ ∃ i H', Inv (X.blk s3 H3 scope ce fp) [] (wipe σ (own.map (·.2))) H' z ∧ tn i z.heap ∧ (∀ b ∈ fp, H' b = none) ∧ W i m H' := fun {z H'} I' nx => by
        obtain ⟨m', hm, w'⟩ := hNx H' nx
        have pinned : ∀ b ∈ fp, ∀ o, s7.heap.get? b = some o → z.heap.get? b = some o ∧ H' b = none := fun b hb o e => by
          obtain ⟨p1, p2, _⟩ := I'.pin (b, o) (List.mem_append_right _ (List.mem_append_right _ (mem_pinsAt hb e)))
          exact ⟨p1, p2⟩
        refine ⟨m', hm, i + 1, H', (I'.unpinned (pins := [])).weak (by rw [← hw8, wipe_length]) (fun j v e => ?_), T.keep _ _ _ st7 fun b hb o e => (pinned b hb o e).1, fun b hb => ?_, w'⟩
        · rw [← hw8] at e; exact (wipe_some e).1
        · obtain ⟨o, e, _⟩ := T.obj _ _ st7 b hb
          exact (pinned b hb o e).2
      cases b with
      | false =>
        simp only [Bool.false_eq_true, if_false] at q9 ⊢
        exact turned I9 q9
      | true =>
        simp only [if_true] at q9 ⊢
        refine thnF (pe.run _ s9 σ8 H9 _ I9 q9) fun z s10 ⟨yv, H10, I10, r10, k, ks, ey, hD10, room, nx⟩ => ?_
        subst ey
        exact add_key (X := X.blk s3 H3 scope ce fp) I10 hD10 r10 room fun s11 I11 => turned I11 nx
  exact PpSet.codeAny_compStart_set loop (T.self X.A 0 _ _ _ st4 loop)
end
/-! ### sorted({e for x in t}), t a tuple -/
theorem onceL_snoc' {α : Type} [DecidableEq α] (xs : List α) (x : α) : onceL (xs ++ [x]) = addK x (onceL xs) := by
  unfold onceL; rw [List.foldl_append]; rfl
section
variable {X : Cx} {F : Fr} {Γ : DL.Env} {Q : D → DL.Env → Prop}
theorem we_sortedSc {α : Type} [DecidableEq α] {f : α → D} {lt : α → α → Bool} {n : Nat} {gk : α → Key} [hf : DOrd f lt n] [kg : KeyEnc f gk] {elt tg iter : Expr} {scope : Scope} {own : List (Str × Nat)} {vs : List Nat} {pos p1 q1 : Pos} (bs : BltAt X "sorted" (.builtin "sorted")) (hX : Std X) (ok : BlkOk X.N X.env.scope scope own) (plain : ∀ x, foldedSetIterable iter X.env x = pure x) (hv : own.map (·.2) = vs)
    (he : starEach [.SetComp elt [⟨tg, iter, [], 0⟩] scope pos] X.env = (false, eval (.SetComp elt [⟨tg, iter, [], 0⟩] scope pos) X.env) :: starEach [] X.env)
    (h : WE X F iter Γ fun d Γ1 => ∃ (ds : List D) (xs : List α), See Γ1.M Γ1.R d (.tup ds) ∧ xs.length = ds.length ∧ xs.length ≤ 4000 ∧
      (∀ (i : Nat) x y, ds[i]? = some x → xs[i]? = some y → ∀ (F' : Fr) X', IsBlk X X' scope → WGC X' F' tg x vs ⟨wipeD Γ1.sl vs, Γ1.M, Γ1.R⟩ fun Γ2 => ∀ X', IsBlk X X' scope → WE X' F' elt Γ2 fun z Γ4 => z = f y ∧ ∃ s5, Γ4 = ⟨s5, Γ1.M, Γ1.R⟩) ∧
      ∀ p, Q (.ref p) ⟨Γ1.sl, (p, .lst ((srt lt (onceL xs)).map f)) :: Γ1.M, Γ1.R⟩) :
    WE X F (.Call (.Name "sorted" p1) [.SetComp elt [⟨tg, iter, [], 0⟩] scope pos] [] q1) Γ Q := fun G σ H hh K hK => by
  subst hv
  have i1 : PE X (.SetComp elt [⟨tg, iter, [], 0⟩] scope pos) _ := pe_sk (X := X) (g := tgB X tg scope) (tt := ttB X [] scope) (te := teB X elt scope) hX.calm hX.nd (pi_tup (pe_U (X := X) (e := iter))) ok (fun z Hz C cl fp => pg_B z Hz C cl fp) (fun z Hz C cl fp => pts_B z Hz C cl fp) (fun z Hz C cl fp => pe_B z Hz C cl fp) plain
  have i2 : PE X (.Call (.Name "sorted" p1) [.SetComp elt [⟨tg, iter, [], 0⟩] scope pos] [] q1) _ := pe_callB (call_sortedK hX.calm hX.hu) bs.gl bs.mg bs.bv (pa_cons i1 pa_nil he) bs.hn bs.hdb
  refine tU_of i2 ?_
  refine h G σ H hh _ fun d Γ1 G1 v H1 q s1 h1 r1 => ?_
  obtain ⟨ds, xs, see, len, hz, turn, fin⟩ := q
  obtain ⟨a, us, rfl, hS, hr⟩ := h1.seeT (K := X.K) r1 see
  refine ⟨a, rfl, ⟨us, hS⟩, fun D hD => ?_⟩
  have hB : F.B D = none := h1.bh.free hD
  have hR : ∀ q ∈ Γ1.R, q.1 ≠ D := fun q hq z => by
    obtain ⟨o, e, _⟩ := h1.rd q hq
    rw [z] at e
    rcases e with e | ⟨_, e⟩ <;> (rw [hB] at e; cases e)
  have next : ∀ (i : Nat) (y : α), xs[i]? = some y → addK (gk y) ((onceL (xs.take i)).map gk) = (onceL (xs.take (i + 1))).map gk := fun i y e => by
    rw [← onceL_map kg.inj, ← onceL_snoc', ← onceL_map kg.inj]
    congr 1
    rw [List.take_add_one, e, List.map_append]; rfl
  refine ⟨fun i m H' => i + m = ds.length ∧ ∃ G', Same G1 G' ∧ Holds ⟨upd F.B D (stO X.prog X.w D ((onceL (xs.take i)).map gk)), F.G0⟩ G' ⟨wipeD Γ1.sl (own.map (·.2)), Γ1.M, Γ1.R⟩ (wipe σ (own.map (·.2))) H', ⟨ds.length, by omega, G1, Same.refl _, (h1.beside hD).wiped _⟩, fun i m H' hW => ?_⟩
  obtain ⟨em, G', sg, h'⟩ := hW
  have e' : H' D = some (stO X.prog X.w D ((onceL (xs.take i)).map gk)) := h'.bh _ _ upd_same
  obtain ⟨a', us', ea, hS', hr'⟩ := h'.seeT (K := X.K) (r1.mono sg) see
  cases ea
  by_cases hi : i < ds.length
  · obtain ⟨x, hx⟩ : ∃ x, ds[i]? = some x := ⟨_, List.getElem?_eq_getElem hi⟩
    obtain ⟨y, hy⟩ : ∃ y, xs[i]? = some y := ⟨_, List.getElem?_eq_getElem (by omega)⟩
    obtain ⟨w, hw, rw'⟩ := hr'.get hx
    refine .inr ⟨⟨us', w, hS', hw⟩, fun H'' => ∃ G', Same G1 G' ∧ Holds ⟨upd F.B D (stO X.prog X.w D ((onceL (xs.take (i + 1))).map gk)), F.G0⟩ G' ⟨wipeD Γ1.sl (own.map (·.2)), Γ1.M, Γ1.R⟩ (wipe σ (own.map (·.2))) H'', fun H'' z => ⟨m - 1, by omega, by omega, z⟩, fun x' H'' hyld => ?_⟩
    obtain ⟨e1, e2⟩ := hyld
    subst e1
    have e3 := e2 us' hS'
    rw [hw] at e3
    cases e3
    intro sh H0 C cl fp
    refine turn i x y hx hy _ _ ⟨sh, H0, C, cl, fp, rfl⟩ G' _ _ _ h' rw' _ fun Γ2 G3 σ3 H3 q3 s3 h3 w3 => ?_
    refine ⟨by rw [w3, wipe_wipe], ?_⟩
    intro sh H0 C cl fp
    intro pins s' I
    refine wts_nil (Q := fun b Γ => b = true ∧ Γ = Γ2) ⟨rfl, rfl⟩ G3 σ3 H3 h3 _ (fun b Γ4 G4 H4 q4 s4 h4 => ?_) pins s' I
    obtain ⟨rfl, rfl⟩ := q4
    rw [if_pos rfl]
    intro sh H0 C cl fp
    refine q3 _ ⟨sh, H0, C, cl, fp, rfl⟩ G4 σ3 H4 h4 _ fun z Γ5 G5 vz H5 q5 s5 h5 r5 => ?_
    obtain ⟨rfl, s6, rfl⟩ := q5
    rw [kg.e] at r5
    refine ⟨gk y, _, r5.kD_inv, h5.bh _ _ upd_same, ?_, G5, ((sg.trans s3).trans s4).trans s5, ?_⟩
    · rw [List.length_map]
      have l1 := onceL_len (xs.take i)
      rw [List.length_take] at l1
      have : scanBound = 4096 := rfl
      omega
    · rw [next i y hy]
      have h6 := Holds.besideTo (Γ := ⟨s6, Γ1.M, Γ1.R⟩) (o' := stO X.prog X.w D ((onceL (xs.take (i + 1))).map gk)) hB h1.gb hR (fun vs => (stO_nt _ _ _ _ vs)) h5
      have h0 := (h1.beside (o := stO X.prog X.w D []) hD).wiped (own.map (·.2))
      refine h6.slots h0.len fun j d e => ?_
      obtain ⟨v, c, r⟩ := h0.sl j d e
      exact ⟨v, c, r.mono (((sg.trans s3).trans s4).trans s5)⟩
  · have ei : i = ds.length := by omega
    subst ei
    refine .inl ⟨⟨us', hS', by rw [hr'.1]; exact Nat.le_refl _⟩, ?_⟩
    rw [List.take_of_length_le (Nat.le_of_eq len)] at e' h'
    refine ⟨D, _, rfl, e', ?_, fun ys p py hp => ?_⟩
    · intro j hj k hk
      obtain ⟨b, _, rfl⟩ := List.mem_map.mp hj
      obtain ⟨c, _, rfl⟩ := List.mem_map.mp hk
      rw [← kg.e, ← kg.e]
      exact hf.al b c
    · obtain ⟨zs, ez, pz⟩ : ∃ zs : List α, ys = zs.map gk ∧ zs.Perm (onceL xs) := perm_of_map py.symm _ rfl
      subst ez
      have es : ((zs.map gk).mergeSort leK) = (srt lt (onceL xs)).map gk := by
        rw [← hf.srt_eq pz]
        refine (List.map_mergeSort (r := fun a b => !lt b a) (s := leK) (f := gk) (l := zs) (fun a _ b _ => ?_)).symm
        show (!lt b a) = leD (kD (gk a)) (kD (gk b))
        rw [← kg.e, ← kg.e, hf.leD]
      rw [es]
      have em : (srt lt (onceL xs)).map f = ((srt lt (onceL xs)).map gk).map kD := by
        rw [List.map_map]
        exact List.map_congr_left fun a _ => kg.e a
      have back : Holds F G' Γ1 σ H' := by
        have h7 := Holds.besideOff (Γ := ⟨wipeD Γ1.sl (own.map (·.2)), Γ1.M, Γ1.R⟩) hB h1.gb hR h'
        refine h7.slots h1.len fun j d e => ?_
        obtain ⟨v, c, r⟩ := h1.sl j d e
        exact ⟨v, c, r.mono sg⟩
      refine hK _ _ G' _ _ (fin p) (s1.trans sg) (back.newOwn hp (.lst ?_)) (.ref p)
      rw [em]
      exact kv_reps _
end
end DL

/-! The D layer, part 22: append by Lean values; constants of the module; ranges with a step; defaults and keyword arguments. -/
namespace DL
open PySem PySem.Spec PyProof.Rows L2
section
variable {X : Cx} {F : Fr} {Γ : DL.Env} {Q : D → DL.Env → Prop} {sl sl' : List (Option D)} {M M' R : Mem}
theorem wm_appendM {α : Type} {f : α → D} {p : Addr} {xs : List α} {v : D} {y : α} {k : Nat} [h : At M p (.lst (xs.map f)) k] [en : EncAs f v y] [h2 : SetM M k (p, .lst ((xs ++ [y]).map f)) M'] (hl : xs.length < sizeLine) (q : Q .non ⟨sl, M', R⟩) : WM X F "list.append" (.ref p) [v] ⟨sl, M, R⟩ Q := by
  have h2' : SetM M k (p, .lst (xs.map f ++ [v])) M' := ⟨by rw [h2.e, List.map_append, en.e]; rfl⟩
  exact wm_append (by rw [List.length_map]; exact hl) q
/-! ### constants of the module -/
structure ConAt (X : Cx) (x : Str) (d : D) : Prop where
  gl : Gl X x
  ex : ∃ (v : V) (u : Value), X.mg x = some u ∧ RelV v u ∧ ∀ G, Rep G v d
  hdb : (x == ("__debug__" : Str)) = false
theorem we_con {x : Str} {pos : Pos} {d : D} (c : ConAt X x d) (q : Q d Γ) : WE X F (.Name x pos) Γ Q := by
  obtain ⟨v, u, hm, r, rd⟩ := c.ex
  exact we_glob c.gl hm r c.hdb rd q
theorem Nm.con {P : Program} {w : World} {K : PySem.W.Frag} {mg : Str → Option Value} {base : Heap} {k : Nat} {N : List Str} {sc : Scope} (n : Nm X N sc) (hX : In X P w K mg base k) {x : Str} {i : Int} (hl : sc.names.lookup x = some .globalImplicit) (hm : ∃ u, mg x = some u ∧ RelV (.int i) u) (hdb : (x == ("__debug__" : Str)) = false) : ConAt X x (.int i) := by
  obtain ⟨u, e, r⟩ := hm
  exact ⟨n.gl hl, ⟨.int i, u, by rw [hX.mg]; exact e, r, fun G => .int i⟩, hdb⟩
/-! ### range(i, j, c), c above 0 -/
theorem small_up {i j c : Int} (hi : 0 ≤ i) (hi2 : i < 2 ^ 62) (hj : 0 ≤ j) (hj2 : j < 2 ^ 62) (hc : 0 < c) (hc2 : c < 1000000000) : RgC i j c (if i < j then (j - i - 1) / c + 1 else 0).toNat := by
  have e : Builtin.Range.rangeSize i j c = if i < j then (j - i - 1) / c + 1 else 0 := by
    unfold Builtin.Range.rangeSize
    rw [if_pos hc]
  have h0 : 0 ≤ (if i < j then (j - i - 1) / c + 1 else 0) := by
    split
    · have := Int.ediv_nonneg (show 0 ≤ j - i - 1 by omega) (Int.le_of_lt hc); omega
    · omega
  have h1 : (if i < j then (j - i - 1) / c + 1 else 0) ≤ 2 ^ 62 := by
    split
    · have := Int.ediv_le_self c (show 0 ≤ j - i - 1 by omega); omega
    · omega
  refine ⟨by omega, by omega, ?_, ?_⟩
  · unfold Builtin.Range.small
    rw [e, if_pos hc]
    simp only [Builtin.Range.rangeFitsLong, Bool.and_eq_true, Bool.or_eq_true, decide_eq_true_eq, beq_iff_eq]
    refine ⟨⟨⟨⟨by omega, by omega⟩, by omega⟩, by omega⟩, .inr (by omega)⟩
  · rw [e]; omega
def stepD (lo c : Int) (n : Nat) : List D := (List.range n).map fun (i : Nat) => D.int (lo + (i : Int) * c)
theorem stepD_at {lo c : Int} {n i : Nat} {x : D} (h : (stepD lo c n)[i]? = some x) : i < n ∧ x = .int (lo + (i : Int) * c) := by
  unfold stepD at h
  rw [List.getElem?_map] at h
  obtain ⟨y, e, rfl⟩ := Option.map_eq_some_iff.mp h
  obtain ⟨hy, e2⟩ := List.getElem?_eq_some_iff.mp e
  rw [List.length_range] at hy
  rw [List.getElem_range] at e2
  subst e2
  exact ⟨hy, rfl⟩
theorem stepD_len {lo c : Int} {n : Nat} : (stepD lo c n).length = n := by unfold stepD; rw [List.length_map, List.length_range]
theorem itSem_step {G1 : Hp} {lo c : Int} {n : Nat} : ItSem F G1 (Itc lo c n) (stepD lo c n) fun _ => True := by
  intro Γ' G' σ' H' sg h' _
  refine ⟨by rw [stepD_len]; exact Nat.le_refl _, fun i x hx => ?_⟩
  obtain ⟨hi, rfl⟩ := stepD_at hx
  exact ⟨hi, fun v H'' ⟨e1, e2⟩ => ⟨G', Same.refl G', by rw [e1]; exact h', by rw [e2]; exact .int _⟩⟩
variable {K : List D → (DL.Env → Prop) → DL.Env → Prop} {tg : Expr}
theorem wi_range3 {a b c : Expr} {p pos : Pos} (hg : Gl X "range") (hm : X.mg "range" = none) (hs : starEach [a, b, c] X.env = (false, eval a X.env) :: starEach [b, c] X.env) (hpl : (backTo pos (starEach [b, c] X.env)).any (·.1) = false)
    (h : WA X F [a, b, c] Γ fun ds Γ1 => ∃ i j s : Int, ds = [.int i, .int j, .int s] ∧ (0 ≤ i ∧ i < 2 ^ 62 ∧ 0 ≤ j ∧ j < 2 ^ 62 ∧ 0 < s ∧ s < 1000000000) ∧ K (stepD i s (if i < j then (j - i - 1) / s + 1 else 0).toNat) (fun _ => True) Γ1) : WI X F tg (.Call (.Name "range" p) [a, b, c] [] pos) Γ K := fun G σ H hh R hR pins s I => by
  refine (pi_range3 (tg := tg) hg hm pa_U hs hpl).run pins s σ H R I ?_
  refine h G σ H hh _ fun ds Γ1 G1 vs H1 q s1 h1 r => ?_
  obtain ⟨i, j, c', rfl, ⟨b1, b2, b3, b4, b5, b6⟩, k⟩ := q
  obtain ⟨v1, vr, rfl, r1, r⟩ := r.cons_inv
  obtain ⟨v2, v3, rfl, r2, r3⟩ := r.two
  rw [r1.int_inv, r2.int_inv, r3.int_inv]
  exact ⟨i, j, c', _, rfl, small_up b1 b2 b3 b4 b5 b6, hR _ _ Γ1 G1 H1 _ k s1 h1 itSem_step⟩
end

/-! ### defs with defaults; keyword arguments -/
def DefAtD (K : PySem.W.Frag) (mg : Str → Option Value) (x : Str) (st : Stmt) (dvs : List V) (kws : List (Str × V)) : Prop := ∃ (f : Addr) (fd : FuncData), FunD K x x (defArgs st) (defBody st) (defScope st) dvs kws f fd ∧ mg x = some (.ref f)
section
variable {P : Program} {w : World} {K : PySem.W.Frag} {mg : Str → Option Value} {base : Heap}
theorem fnDD {x : Str} {st : Stmt} {f : Addr} {fd : FuncData} {N ps : List Str} {dvs : List V} {kws : List (Str × V)} {k : Nat} {S : SpD} (Fu : FunD K x x (defArgs st) (defBody st) (defScope st) dvs kws f fd) (Sc : FnScope N ps (defScope st)) (len : ∀ ds M R Q, S ds M R Q → ds.length = ps.length)
    (hbody : ∀ (X : Cx) (F : Fr), In X P w K mg base k → Nm X N (defScope st) → ∀ ds M R Q, S ds M R Q → WSs X F (defBody st) ⟨startD N.length ds, M, R⟩ (outD Q)) : FnOk P w K mg base CX0 (k + 1) f fd ps (SpOf S) := by
  refine Fu.ok Sc (fun vs H Q E h => ?_) (fun cdv A outer s H vs Q E hr h => ?_)
  · obtain ⟨ds, M, R, B, G, Pq, r, _, _, _, _, hS, _⟩ := h
    rw [r.1]; exact len _ _ _ _ hS
  · obtain ⟨ds, M, R, B, G, Pq, r, gb, bh, mk, rk, hS, q⟩ := h
    refine ⟨tUSs _ (defBody st), PSs.nox pss_U, ?_⟩
    have hin : In (cxOf CX0 P w K mg base N x (defScope st) f cdv A outer s H E).nox P w K mg base k := ⟨rfl, rfl, rfl, rfl, rfl, hr, rfl, Sc.nd, rfl⟩
    obtain ⟨e1, e2⟩ := start_reps (N := N) r
    refine hbody _ ⟨B, G⟩ hin ⟨rfl, rfl, rfl⟩ ds M R Pq hS G (L2.start N vs) H ⟨Same.refl _, gb.trans bh, bh, gb, fun p o e => .inl e, e1, e2, mk, rk⟩ _ ⟨?_, ?_, ?_, ?_⟩
    · intro Γ' G' σ' H' ⟨M', nd, sb, hp⟩ sg hh
      exact q .non M' G' .non H' hp sg hh.gh hh.bh hh.nw ⟨nd, fun z hz => hh.mem.at_ z (sb z hz)⟩ .non
    · intro d Γ' G' σ' v H' ⟨M', nd, sb, hp⟩ sg hh rv
      exact q d M' G' v H' hp sg hh.gh hh.bh hh.nw ⟨nd, fun z hz => hh.mem.at_ z (sb z hz)⟩ rv
    · exact fun _ _ _ _ z => z.elim
    · exact fun _ _ _ _ z => z.elim
/-- f(..), the last parameters by their defaults dd -/
structure CalX (P : Program) (w : World) (K : PySem.W.Frag) (mg : Str → Option Value) (base : Heap) (k : Nat) (x : Str) (dd : List D) (S : SpD) : Prop where
  ex : ∃ (f : Addr) (fd : FuncData) (ps : List Str) (dvs : List V) (ds : List Value), FnOk P w K mg base CX0 k f fd ps (SpOf S) ∧ mg x = some (.ref f) ∧ PySem.W.keepIn K (.ref f) = true ∧ Binds K fd ps ds ∧ Vals dvs ds ∧ ∀ G, Reps G dvs dd
/-- f(.., k = ..): n values by place, then the ones by name (ks), put in order by g -/
structure CalK (P : Program) (w : World) (K : PySem.W.Frag) (mg : Str → Option Value) (base : Heap) (k : Nat) (x : Str) (n : Nat) (ks : List Str) (g : List D → List D → List D) (S : SpD) : Prop where
  ex : ∃ (f : Addr) (fd : FuncData) (ps : List Str) (gv : List Value → List Value → List Value) (gV : List V → List V → List V), FnOk P w K mg base CX0 k f fd ps (SpOf S) ∧ mg x = some (.ref f) ∧ PySem.W.keepIn K (.ref f) = true ∧ KBn K fd ps n ks gv gV ∧ ∀ G vs ds zs es, Reps G vs ds → Reps G zs es → Reps G (gV vs zs) (g ds es)
/-- one parameter by place, one by name alone -/
theorem calX_kw1 {x : Str} {st : Stmt} {N : List Str} {p q : Str} {v : V} {d : D} {k : Nat} {S : SpD} (Da : DefAtD K mg x st [] [(q, v)]) (hv : ∀ G, Rep G v d) (Sc : FnScope N [p, q] (defScope st))
    (hb : ∀ (D : Addr) (doc pm : Value) (an : Option Addr) (cdv ct : Value) (us ks : List Value), us.length = 1 → ks.length = 1 → KwChain D ([q].zip ks) (bindArgs (PySem.W.fnOf x x (defArgs st) (defBody st) (defScope st) .none (.ref D) doc pm an cdv ct) ⟨us, []⟩) ([p, q].zip (us ++ ks)))
    (hk : ∀ (D : Addr) (doc pm : Value) (an : Option Addr) (cdv ct : Value) (us ks : List Value), us.length = 1 → ks.length = 1 → bindArgs (PySem.W.fnOf x x (defArgs st) (defBody st) (defScope st) .none (.ref D) doc pm an cdv ct) ⟨us, [q].zip ks⟩ = pure ([p, q].zip (us ++ ks)))
    (len : ∀ ds M R Q, S ds M R Q → ds.length = 2) (hbody : ∀ (X : Cx) (F : Fr), In X P w K mg base k → Nm X N (defScope st) → ∀ ds M R Q, S ds M R Q → WSs X F (defBody st) ⟨startD N.length ds, M, R⟩ (outD Q)) :
    CalX P w K mg base (k + 1) x [d] S ∧ CalK P w K mg base (k + 1) x 1 [q] (fun ds es => ds ++ es) S := by
  obtain ⟨f, fd, Fu, hm⟩ := Da
  have F1 := fnDD Fu Sc len hbody
  obtain ⟨ds, rv, bd⟩ := Fu.binds0 (ps := [p, q]) 1 (by simp) rfl hb
  refine ⟨⟨f, fd, [p, q], [v], ds, F1, hm, Fu.kp, bd, rv, fun G => Reps.cons (hv G) Reps.nil⟩, ⟨f, fd, [p, q], fun us ws => us ++ ws, fun vs zs => vs ++ zs, F1, hm, Fu.kp, ?_, fun G vs ds zs es r1 r2 => r1.append r2⟩⟩
  obtain ⟨oc, od, dV, kV, doc, pm, an, cdv, ct, osl, rfl, lk, hcd, hD, hK⟩ := Fu.ex
  rcases hD with ⟨_, rfl⟩ | ⟨e, _⟩
  · rcases hK with e | ⟨D, rfl, hq⟩
    · cases e
    · exact ⟨fun s us ws _ l1 l2 => .of_eq (hk D doc pm an cdv ct us ws l1 l2), fun r1 r2 => r1.append r2⟩
  · exact absurd rfl e
variable {X : Cx} {F : Fr} {Γ : DL.Env} {Q : D → DL.Env → Prop} {sl sl' : List (Option D)} {M M' R : Mem}
theorem we_callX {k j : Nat} {S : SpD} {x : Str} {p pos : Pos} {e : Expr} {es : List Expr} {dd : List D} (c : CalX P w K mg base k x dd S) (hX : In X P w K mg base j) (hj : k ≤ j) (hg : Gl X x) (hdb : (x == ("__debug__" : Str)) = false) (he : starEach (e :: es) X.env = (false, eval e X.env) :: starEach es X.env)
    (hpl : (backTo pos (starEach es X.env)).any (·.1) = false) (h : WA X F (e :: es) Γ fun ds Γ1 => Own0 S (ds ++ dd) Γ1 Q) : WE X F (.Call (.Name x p) (e :: es) [] pos) Γ Q := fun G σ H hh R hR => by
  obtain ⟨f, fd, ps, dvs, us, Fn, hm, hk, hb, rv, rd⟩ := c.ex
  obtain ⟨rfl, rfl, rfl, rfl, rfl, room, calm, nd, nox⟩ := hX
  refine tU_of (pe_call Fn (room.mono hj) hg hm hk hb rv (E := fun _ _ _ => False) pass0 pa_U hdb he hpl) ?_
  refine h G σ H hh _ fun ds Γ1 G1 vs H1 q s1 h1 r1 => ?_
  exact call_sem (M0 := []) h1 (r1.append (rd G1)) (List.Perm.refl _) q _ _ fun d M' G' v H' hq sg h' rv => hR d _ G' v H' hq (s1.trans sg) h' rv
/-- the values of keywords -/
def WK (X : Cx) (F : Fr) (kws : List Keyword) (Γ : DL.Env) (Q : List D → DL.Env → Prop) : Prop := ∀ G σ H, Holds F G Γ σ H → ∀ R, GoodA F Q G σ R → ∀ (pos : Pos) (pins : List (Addr × Obj)) (s : Shared), Inv X pins σ H s →
  wpAny (model X.prog X.w) X.A (evalAll ((backToKw pos (keywordEach kws X.env)).map (·.2))) (AP X pins σ R) X.xe s
theorem wk_nil {Q : List D → DL.Env → Prop} (q : Q [] Γ) : WK X F [] Γ Q := fun G σ H hh R hR pos pins s I => pk_nil.run pos pins s σ H R I (hR [] Γ G [] H q (Same.refl G) hh Reps.nil)
theorem wk_cons {nm : Option Str} {e : Expr} {kpos : Pos} {kws : List Keyword} {Q : List D → DL.Env → Prop} (h : WE X F e Γ fun d Γ1 => WK X F kws Γ1 fun ds Γ2 => Q (d :: ds) Γ2) : WK X F (⟨nm, e, kpos⟩ :: kws) Γ Q := fun G σ H hh R hR pos pins s I => by
  have tl : PK X kws (fun σ H R => ∀ (pos : Pos) (pins : List (Addr × Obj)) (s : Shared), Inv X pins σ H s → wpAny (model X.prog X.w) X.A (evalAll ((backToKw pos (keywordEach kws X.env)).map (·.2))) (AP X pins σ R) X.xe s) := ⟨fun pos pins s σ H Q I h => h pos pins s I⟩
  refine (pk_cons (nm := nm) (kpos := kpos) (pe_U (X := X) (e := e)) tl).run pos pins s σ H R I ?_
  refine h G σ H hh _ fun d Γ1 G1 v H1 q s1 h1 r1 pos pins s I => ?_
  exact q G1 σ H1 h1 _ (fun ds Γ2 G2 vs H2 q2 s2 h2 r2 => hR (d :: ds) Γ2 G2 (v :: vs) H2 q2 (s1.trans s2) h2 (Reps.cons (r1.mono s2) r2)) pos pins s I
theorem we_callK {k j n : Nat} {S : SpD} {x : Str} {p pos : Pos} {e : Expr} {es : List Expr} {kws : List Keyword} {ks : List Str} {g : List D → List D → List D} (c : CalK P w K mg base k x n ks g S) (hX : In X P w K mg base j) (hj : k ≤ j) (hg : Gl X x)
    (hall : (backToKw pos (keywordEach kws X.env)).all (·.1.isSome) = true) (hks : (backToKw pos (keywordEach kws X.env)).filterMap (·.1) = ks)
    (hdb : (x == ("__debug__" : Str)) = false) (he : starEach (e :: es) X.env = (false, eval e X.env) :: starEach es X.env) (hpl : ((backTo pos (starEach (e :: es) X.env)).any (·.1) || (backToKw pos (keywordEach kws X.env)).any (·.1.isNone)) = false)
    (h : WA X F (e :: es) Γ fun ds Γ1 => WK X F kws Γ1 fun zs Γ2 => ds.length = n ∧ zs.length = ks.length ∧ Own0 S (g ds zs) Γ2 Q) : WE X F (.Call (.Name x p) (e :: es) kws pos) Γ Q := fun G σ H hh R hR => by
  obtain ⟨f, fd, ps, gv, gV, Fn, hm, hk, hb, rg⟩ := c.ex
  obtain ⟨rfl, rfl, rfl, rfl, rfl, room, calm, nd, nox⟩ := hX
  have tl : PK X kws (fun σ H R => ∀ (pos : Pos) (pins : List (Addr × Obj)) (s : Shared), Inv X pins σ H s → wpAny (model X.prog X.w) X.A (evalAll ((backToKw pos (keywordEach kws X.env)).map (·.2))) (AP X pins σ R) X.xe s) := ⟨fun pos pins s σ H Q I h => h pos pins s I⟩
  refine tU_of (pe_callN Fn (room.mono hj) hg hm hk hb (E := fun _ _ _ => False) pass0 pa_U tl hall hks hdb he hpl) ?_
  refine h G σ H hh _ fun ds Γ1 G1 vs H1 q s1 h1 r1 pos' pins s I => ?_
  refine q G1 σ H1 h1 _ (fun zs Γ2 G2 us H2 q2 s2 h2 r2 => ?_) pos' pins s I
  obtain ⟨l1, l2, q3⟩ := q2
  refine ⟨by rw [r1.1]; exact l1, by rw [r2.1]; exact l2, ?_⟩
  exact call_sem (M0 := []) h2 (rg _ _ _ _ _ (r1.mono s2) r2) (List.Perm.refl _) q3 _ _ fun d M' G' v H' hq sg h' rv => hR d _ G' v H' hq ((s1.trans s2).trans sg) h' rv
end
end DL

/-! The D layer, part 23: texts as lists of signs. -/
namespace DL
open PySem PySem.Spec PyProof.Rows L2
abbrev sg (z : Str) : List Nat := z.cps.toList
theorem sg_len (z : Str) : (sg z).length = z.length := Array.length_toList
theorem sg_ext {z w : Str} (h : sg z = sg w) : z = w := by
  cases z with | mk a => cases w with | mk b =>
  have : a = b := Array.toList_inj.mp h
  rw [this]
theorem sg_app (z w : Str) : sg (z ++ w) = sg z ++ sg w := Array.toList_append
theorem sg_one (c : Nat) : sg ⟨#[c]⟩ = [c] := rfl
theorem clip_ix (n d : Nat) (v : Option Int) (hd : d ≤ n) : (match v with
    | none => (d : Int)
    | some i => max 0 (min (if i < 0 then i + (n : Int) else i) (n : Int))) = ((HT.sIx n d v : Nat) : Int) := by
  cases v with
  | none => rfl
  | some i =>
    show max 0 (min (if i < 0 then i + (n : Int) else i) (n : Int)) = ((if i < 0 then (i + (n : Int)).toNat else min i.toNat n : Nat) : Int)
    split <;> omega
theorem slice_ix (n : Nat) (lo hi : Option Int) : Builtin.Str.strSliceIndices lo hi 1 n = (List.range (HT.sIx n n hi - HT.sIx n 0 lo)).map fun k => HT.sIx n 0 lo + k := by
  have e : Builtin.Str.strSliceIndices lo hi 1 n = sliceRange ((HT.sIx n 0 lo : Nat) : Int) ((HT.sIx n n hi : Nat) : Int) 1 := by
    rw [← clip_ix n 0 lo (Nat.zero_le _), ← clip_ix n n hi (Nat.le_refl _)]
    cases lo <;> cases hi <;> rfl
  rw [e]
  unfold sliceRange
  generalize HT.sIx n 0 lo = a
  generalize HT.sIx n n hi = b
  have c : (if (1 : Int) > 0 then (if (a : Int) < b then ((b : Int) - a + 1 - 1) / 1 else 0) else (if (a : Int) > b then ((a : Int) - b - 1 - 1) / (-1) else 0)).toNat = b - a := by
    rw [if_pos (by decide)]
    split <;> omega
  dsimp only
  rw [c]
  exact List.map_congr_left fun k _ => by omega
theorem sg_slice (t : Str) (lo hi : Option Int) : sg (Txt.slice t lo hi) = cutD (sg t) lo hi := by
  have ha : HT.sIx t.length 0 lo ≤ t.length := HT.sIx_le _ _ (Nat.zero_le _) _
  have hb : HT.sIx t.length t.length hi ≤ t.length := HT.sIx_le _ _ (Nat.le_refl _) _
  have key : ∀ a b : Nat, a ≤ t.length → b ≤ t.length → HT.sIx t.length 0 lo = a → HT.sIx t.length t.length hi = b → sg (Txt.slice t lo hi) = ((sg t).drop a).take (b - a) := by
    intro a b h1 h2 e1 e2
    have e3 : Builtin.Str.strSliceIndices lo hi 1 t.length = Builtin.Str.strSliceIndices (some (a : Int)) (some ((max a b : Nat) : Int)) 1 t.length := by
      rw [slice_ix, slice_ix, e1, e2, HT.sIx_nat, HT.sIx_nat, Nat.min_eq_left h1, Nat.min_eq_left (by omega), show max a b - a = b - a by omega]
    have e4 : Txt.slice t lo hi = Txt.slice t (some (a : Int)) (some ((max a b : Nat) : Int)) := by
      unfold Txt.slice
      rw [e3]
    rw [e4]
    refine (PySem.W.os_slice (t := t) (a := a) (b := max a b) (by omega) (by omega)).trans ?_
    rw [show max a b - a = b - a by omega]
  unfold cutD
  rw [sg_len]
  exact key _ _ ha hb rfl rfl
theorem slice_len_le (t : Str) (lo hi : Option Int) : (Txt.slice t lo hi).length ≤ t.length := Txt.slice_le t lo hi
/-- the items of a list, in a row, told by what stands in it -/
theorem wss_mid {X : Cx} {F : Fr} {Γ : DL.Env} {st : List Stmt} {O : Out} (Mid : DL.Env → Prop) (h : WSs X F st Γ { O with nx := Mid }) (h2 : ∀ Γ1, Mid Γ1 → O.nx Γ1) : WSs X F st Γ O := wss_mono h h2 (fun _ _ z => z) (fun _ z => z) fun _ z => z
/-- return of a thing that is shared from then on -/
theorem ws_retV {X : Cx} {F : Fr} {Γ : DL.Env} {e : Expr} {pos : Pos} {O : Out} (h : WE X F e Γ fun d Γ1 => Fz F d Γ1 O.rt) : WS X F (.Return (some e) pos) Γ O := ws_ret (we_fz h)
/-! ### how long a text is, by instances -/
class SzLe (z : Str) (n : outParam Nat) : Prop where
  le : z.length ≤ n
instance SzLe.one {c : Nat} : SzLe ⟨#[c]⟩ 1 := ⟨Nat.le_refl 1⟩
instance SzLe.app {z w : Str} {a b : Nat} [h : SzLe z a] [k : SzLe w b] : SzLe (z ++ w) (a + b) := ⟨by
  rw [← sg_len, sg_app, List.length_append, sg_len, sg_len]
  exact Nat.add_le_add h.le k.le⟩
instance SzLe.cut {z : Str} {a : Nat} {lo hi : Option Int} [h : SzLe z a] : SzLe (Txt.slice z lo hi) a := ⟨Nat.le_trans (slice_len_le z lo hi) h.le⟩
section
variable {X : Cx} {F : Fr} {Γ : DL.Env} {Q : D → DL.Env → Prop} {z w : Str} {a b : Nat} {ea eb : Expr}
theorem wo_addS2 [h : SzLe z a] [k : SzLe w b] (hz : a + b ≤ 16777216) (q : Q (.str (z ++ w)) Γ) : WO X F (binaryOp .Add) (.str z) (.str w) Γ Q := wo_addS (by have := h.le; have := k.le; show _ ≤ 16777216; omega) q
theorem wsl_txt2 {lo hi : Option Int} [h : SzLe z a] (hz : a ≤ 16777216) (q : Q (.str (Txt.slice z lo hi)) Γ) : WSl X F (.str z) lo hi Γ Q := wsl_txt (Nat.le_trans h.le hz) q
theorem wc_lenS2 [h : SzLe z a] (hz : a ≤ 16777216) (q : Q (.int (z.length : Int)) Γ) : WC X F (.builtin "len") [.str z] Γ Q := wc_lenS (Nat.le_trans h.le hz) q
end
end DL

/-! The D layer, part 24: dicts by Lean values. -/
namespace DL
open PySem PySem.Spec PyProof.Rows L2
section
variable {α β κ : Type} [DecidableEq α] [DecidableEq κ] {g : α → κ} {f : β → D}
/-- the rows of a dict, by Lean values -/
def asK (g : α → κ) (f : β → D) (es : List (α × β)) : List (κ × D) := es.map fun e => (g e.1, f e.2)
def getE (es : List (α × β)) (a : α) : Option β := (es.find? fun e => decide (e.1 = a)).map (·.2)
def putE (es : List (α × β)) (a : α) (b : β) : List (α × β) := if (es.any fun e => decide (e.1 = a)) = true then es.map (fun e => if e.1 = a then (e.1, b) else e) else es ++ [(a, b)]
def delE (es : List (α × β)) (a : α) : List (α × β) := es.filter fun e => decide (e.1 ≠ a)
/-- told apart by their keys -/
class KeyInj (g : α → κ) : Prop where
  inj : ∀ a b, g a = g b → a = b
theorem key_iff [k : KeyInj g] {a b : α} : g a = g b ↔ a = b := ⟨k.inj a b, fun h => by rw [h]⟩
theorem asK_len (es : List (α × β)) : (asK g f es).length = es.length := by unfold asK; rw [List.length_map]
theorem look_as [KeyInj g] (es : List (α × β)) (a : α) : lookD (asK g f es) (g a) = (getE es a).map f := by
  unfold lookD asK getE
  rw [List.find?_map]
  have e : ((fun kv : κ × D => decide (kv.1 = g a)) ∘ fun e : α × β => (g e.1, f e.2)) = fun e : α × β => decide (e.1 = a) := by
    funext e
    exact decide_eq_decide.mpr (key_iff (g := g) (a := e.1) (b := a))
  rw [e]
  cases es.find? fun e => decide (e.1 = a) <;> rfl
theorem any_as [KeyInj g] (es : List (α × β)) (a : α) : ((asK g f es).any fun kv => decide (kv.1 = g a)) = es.any fun e => decide (e.1 = a) := by
  unfold asK
  rw [List.any_map]
  congr 1
  funext e
  exact decide_eq_decide.mpr (key_iff (g := g) (a := e.1) (b := a))
theorem put_as [KeyInj g] (es : List (α × β)) (a : α) (b : β) : putD (asK g f es) (g a) (f b) = asK g f (putE es a b) := by
  unfold putD putE
  rw [any_as]
  split
  · unfold asK
    rw [List.map_map, List.map_map]
    refine List.map_congr_left fun e _ => ?_
    by_cases h : e.1 = a
    · simp [h]
    · have : ¬ g e.1 = g a := fun z => h (key_iff.mp z)
      simp [h, this]
  · unfold asK; rw [List.map_append]; rfl
theorem drop_as [KeyInj g] (es : List (α × β)) (a : α) : dropD (asK g f es) (g a) = asK g f (delE es a) := by
  unfold dropD delE asK
  rw [List.filter_map]
  congr 1
  refine List.filter_congr fun e _ => ?_
  show decide (g e.1 ≠ g a) = decide (e.1 ≠ a)
  refine decide_eq_decide.mpr (not_congr key_iff)
theorem keys_as (es : List (α × β)) : (asK g f es).map (·.1) = (es.map (·.1)).map g := by
  unfold asK; rw [List.map_map, List.map_map]; rfl
theorem getE_mem {es : List (α × β)} {a : α} {b : β} (h : getE es a = some b) : (a, b) ∈ es := by
  unfold getE at h
  obtain ⟨e, e1, rfl⟩ := Option.map_eq_some_iff.mp h
  have h1 := List.find?_some e1
  have h2 := List.mem_of_find?_eq_some e1
  have : e.1 = a := by simpa using h1
  rw [← this]; exact h2
theorem getE_some {es : List (α × β)} {a : α} : (getE es a).isSome = decide (a ∈ es.map (·.1)) := by
  unfold getE
  rw [Option.isSome_map, Bool.eq_iff_iff, decide_eq_true_eq, List.find?_isSome, List.mem_map]
  constructor
  · rintro ⟨e, h1, h2⟩
    exact ⟨e, h1, by simpa using h2⟩
  · rintro ⟨e, h1, h2⟩
    exact ⟨e, h1, by simpa using h2⟩
theorem getE_of {es : List (α × β)} (nd : (es.map (·.1)).Nodup) {a : α} {b : β} (h : (a, b) ∈ es) : getE es a = some b := by
  have h1 : (getE es a).isSome = true := by rw [getE_some, decide_eq_true_eq]; exact List.mem_map_of_mem (f := Prod.fst) h
  obtain ⟨c, e⟩ := Option.isSome_iff_exists.mp h1
  have h2 := getE_mem e
  have : b = c := by
    induction es with
    | nil => cases h
    | cons z es ih =>
      rw [List.map_cons, List.nodup_cons] at nd
      rcases List.mem_cons.mp h with rfl | h3
      · rcases List.mem_cons.mp h2 with h4 | h4
        · exact (Prod.mk.inj h4).2.symm
        · exact absurd (List.mem_map_of_mem (f := Prod.fst) h4) nd.1
      · rcases List.mem_cons.mp h2 with rfl | h4
        · exact absurd (List.mem_map_of_mem (f := Prod.fst) h3) nd.1
        · have nz : z.1 ≠ a := fun q => nd.1 (q ▸ List.mem_map_of_mem (f := Prod.fst) h3)
          refine ih nd.2 h3 ?_ ?_ h4
          · rw [getE_some, decide_eq_true_eq]; exact List.mem_map_of_mem (f := Prod.fst) h3
          · unfold getE at e ⊢
            rwa [List.find?_cons_of_neg (by simpa using nz)] at e
  rw [e, this]
theorem putE_len (es : List (α × β)) (a : α) (b : β) : (putE es a b).length ≤ es.length + 1 := by
  unfold putE
  split
  · rw [List.length_map]; omega
  · rw [List.length_append]; exact Nat.le_refl _
theorem putE_keys (es : List (α × β)) (a : α) (b : β) : (putE es a b).map (·.1) = if a ∈ es.map (·.1) then es.map (·.1) else es.map (·.1) ++ [a] := by
  have e : (es.any fun e => decide (e.1 = a)) = true ↔ a ∈ es.map (·.1) := by
    rw [List.any_eq_true, List.mem_map]
    exact ⟨fun ⟨x, h1, h2⟩ => ⟨x, h1, by simpa using h2⟩, fun ⟨x, h1, h2⟩ => ⟨x, h1, by simpa using h2⟩⟩
  unfold putE
  by_cases h : a ∈ es.map (·.1)
  · rw [if_pos (e.mpr h), if_pos h, List.map_map]
    refine List.map_congr_left fun x _ => ?_
    show (if x.1 = a then (x.1, b) else x).1 = x.1
    split <;> rfl
  · rw [if_neg fun z => h (e.mp z), if_neg h, List.map_append]; rfl
theorem putE_nodup {es : List (α × β)} (nd : (es.map (·.1)).Nodup) (a : α) (b : β) : ((putE es a b).map (·.1)).Nodup := by
  rw [putE_keys]
  split
  · exact nd
  · rename_i h
    exact List.nodup_append.mpr ⟨nd, by simp, fun x hx y hy e => h (by rw [List.mem_singleton.mp hy] at e; exact e ▸ hx)⟩
theorem delE_nodup {es : List (α × β)} (nd : (es.map (·.1)).Nodup) (a : α) : ((delE es a).map (·.1)).Nodup := ((List.filter_sublist (l := es)).map _).nodup nd
/-- a key set anew: its row goes, a new one comes -/
theorem putE_perm {es : List (α × β)} (nd : (es.map (·.1)).Nodup) (a : α) (b : β) : (putE es a b).Perm (delE es a ++ [(a, b)]) := by
  unfold putE
  by_cases h : (es.any fun e => decide (e.1 = a)) = true
  · rw [if_pos h]
    have hm : a ∈ es.map (·.1) := by
      obtain ⟨x, h1, h2⟩ := List.any_eq_true.mp h
      exact List.mem_map.mpr ⟨x, h1, by simpa using h2⟩
    clear h
    induction es with
    | nil => cases hm
    | cons z es ih =>
      rw [List.map_cons, List.nodup_cons] at nd
      by_cases hz : z.1 = a
      · have rest : es.map (fun e => if e.1 = a then (e.1, b) else e) = es := by
          refine (List.map_congr_left fun e he => ?_).trans (List.map_id _)
          have : e.1 ≠ a := fun q => nd.1 (by rw [hz, ← q]; exact List.mem_map_of_mem (f := Prod.fst) he)
          simp [this]
        have d : delE (z :: es) a = es := by
          unfold delE
          rw [List.filter_cons_of_neg (by simpa using hz), List.filter_eq_self]
          intro e he
          have : e.1 ≠ a := fun q => nd.1 (by rw [hz, ← q]; exact List.mem_map_of_mem (f := Prod.fst) he)
          simpa using this
        rw [d, List.map_cons, rest, if_pos hz, hz]
        exact (List.perm_append_singleton (a, b) es).symm
      · have d : delE (z :: es) a = z :: delE es a := by
          unfold delE
          rw [List.filter_cons_of_pos (by simpa using hz)]
        rw [d, List.map_cons, if_neg hz, List.cons_append]
        refine (ih nd.2 ?_).cons z
        rcases List.mem_cons.mp hm with q | q
        · exact absurd q.symm hz
        · exact q
  · rw [if_neg h]
    have d : delE es a = es := by
      unfold delE
      rw [List.filter_eq_self]
      intro e he
      have : ¬ e.1 = a := fun q => h (List.any_eq_true.mpr ⟨e, he, by simpa using q⟩)
      simpa using this
    rw [d]
end
instance KeyInj.inl : KeyInj (Sum.inl : Int → Key) := ⟨fun a b h => by cases h; rfl⟩
instance KeyInj.inr : KeyInj (Sum.inr : Str → Key) := ⟨fun a b h => by cases h; rfl⟩
/-- d is the word of the key g a -/
class KeyIs {α : Type} (g : α → Key) (d : D) (a : outParam α) : Prop where
  e : d = kD (g a)
instance KeyIs.inl {i : Int} : KeyIs Sum.inl (.int i) i := ⟨rfl⟩
instance KeyIs.inr {z : Str} : KeyIs Sum.inr (.str z) z := ⟨rfl⟩
/-- how the keys are told as data -/
class KeyFor {α : Type} (g : α → Key) (fk : outParam (α → D)) : Prop where
  e : ∀ a, fk a = kD (g a)
instance KeyFor.inl : KeyFor Sum.inl D.int := ⟨fun _ => rfl⟩
instance KeyFor.inr : KeyFor Sum.inr D.str := ⟨fun _ => rfl⟩
/-- .. of the tuple of keys -/
class KeyTIs {α : Type} (g : α → List Key) (d : D) (a : outParam α) : Prop where
  e : d = .tup ((g a).map kD)
section
variable {α β : Type} [DecidableEq α] {X : Cx} {F : Fr} {Γ : DL.Env} {Q : D → DL.Env → Prop} {sl : List (Option D)} {M M' R : Mem} {ea eb : Expr} {QG : DL.Env → Prop} {f : β → D} {es : List (α × β)} {a : α} {b : β} {d y v : D} {p : Addr} {m : Nat}
section
variable {g : α → Key} [KeyInj g]
theorem wx_asK (hX : Std X) [sd : SeeK M R d (asK g f es)] [ky : KeyIs g y a] (ha : getE es a = some b) (q : Q (f b) ⟨sl, M, R⟩) : WX X F ea eb d y ⟨sl, M, R⟩ Q := by
  rw [ky.e]
  exact wx_dK hX (by rw [look_as, ha]; rfl) q
theorem wo_inAsK (hX : Std X) [sd : SeeK M R d (asK g f es)] [ky : KeyIs g y a] (q : Q (.bl (getE es a).isSome) ⟨sl, M, R⟩) : WO X F (compareOp .In) y d ⟨sl, M, R⟩ Q := by
  rw [ky.e]
  exact wo_inK' hX (by rw [look_as, Option.isSome_map]; exact q)
theorem wo_ninAsK (hX : Std X) [sd : SeeK M R d (asK g f es)] [ky : KeyIs g y a] (q : Q (.bl (!(getE es a).isSome)) ⟨sl, M, R⟩) : WO X F (compareOp .NotIn) y d ⟨sl, M, R⟩ Q := by
  rw [ky.e]
  exact wo_ninK' hX (by rw [look_as, Option.isSome_map]; exact q)
theorem wset_asK (hX : Std X) [h : At M p (.dK (asK g f es)) m] [ky : KeyIs g y a] [en : EncAs f v b] [h2 : SetM M m (p, .dK (asK g f (putE es a b))) M'] (hl : es.length < sizeLine) (q : QG ⟨sl, M', R⟩) : WSet X F (.ref p) y v ⟨sl, M, R⟩ QG := by
  have h2' : SetM M m (p, .dK (putD (asK g f es) (g a) v)) M' := ⟨by rw [h2.e, en.e, put_as]⟩
  rw [ky.e]
  exact wset_dK hX (by rw [asK_len]; exact hl) q
theorem getD_asK {Q : Option D → DL.Env → Prop} [sd : SeeK M R d (asK g f es)] [ky : KeyIs g y a] (q : Q ((getE es a).map f) ⟨sl, M, R⟩) : GetD F d y ⟨sl, M, R⟩ Q := by
  haveI : KeyAs y (g a) := ⟨ky.e⟩
  exact getD_K (by rw [look_as]; exact q)
theorem popD_asK {j : Nat} [h : At M p (.dK (asK g f es)) j] [ky : KeyIs g y a] [t : SetM M j (p, .dK (asK g f (delE es a))) M'] (hx : getE es a = some b) (q : Q (f b) ⟨sl, M', R⟩) : PopD F (.ref p) y ⟨sl, M, R⟩ Q := by
  haveI : KeyAs y (g a) := ⟨ky.e⟩
  haveI : SetM M j (p, .dK (dropD (asK g f es) (g a))) M' := ⟨by rw [t.e, drop_as]⟩
  exact popD_go (by rw [look_as, hx]; rfl) q
end
section
variable {g : α → List Key} [KeyInj g]
theorem wx_asT (hX : Std X) [sd : SeeDT M R d (asK g f es)] [ky : KeyTIs g y a] (ha : getE es a = some b) (q : Q (f b) ⟨sl, M, R⟩) : WX X F ea eb d y ⟨sl, M, R⟩ Q := by
  rw [ky.e]
  exact wx_dT hX (by rw [look_as, ha]; rfl) q
theorem wo_inAsT (hX : Std X) [sd : SeeDT M R d (asK g f es)] [ky : KeyTIs g y a] (q : Q (.bl (getE es a).isSome) ⟨sl, M, R⟩) : WO X F (compareOp .In) y d ⟨sl, M, R⟩ Q := by
  rw [ky.e]
  exact wo_inDT' hX (by rw [look_as, Option.isSome_map]; exact q)
theorem wo_ninAsT (hX : Std X) [sd : SeeDT M R d (asK g f es)] [ky : KeyTIs g y a] (q : Q (.bl (!(getE es a).isSome)) ⟨sl, M, R⟩) : WO X F (compareOp .NotIn) y d ⟨sl, M, R⟩ Q := by
  rw [ky.e]
  exact wo_ninDT' hX (by rw [look_as, Option.isSome_map]; exact q)
theorem wset_asT (hX : Std X) [h : At M p (.dT (asK g f es)) m] [ky : KeyTIs g y a] [en : EncAs f v b] [h2 : SetM M m (p, .dT (asK g f (putE es a b))) M'] (hl : es.length < sizeLine) (q : QG ⟨sl, M', R⟩) : WSet X F (.ref p) y v ⟨sl, M, R⟩ QG := by
  have h2' : SetM M m (p, .dT (putD (asK g f es) (g a) v)) M' := ⟨by rw [h2.e, en.e, put_as]⟩
  rw [ky.e]
  exact wset_dT hX (by rw [asK_len]; exact hl) q
theorem getD_asT {Q : Option D → DL.Env → Prop} [sd : SeeDT M R d (asK g f es)] [ky : KeyTIs g y a] (q : Q ((getE es a).map f) ⟨sl, M, R⟩) : GetD F d y ⟨sl, M, R⟩ Q := by
  haveI : KeyTAs y (g a) := ⟨ky.e⟩
  exact getD_T (by rw [look_as]; exact q)
end
/-- sorted(d) -/
theorem wc_sortedAs {lt : α → α → Bool} {n : Nat} {fk : α → D} {g : α → Key} [KeyInj g] [sd : SeeK M R d (asK g f es)] [kf : KeyFor g fk] [hf : DOrd fk lt n] (hX : Std X) (q : ∀ p, Q (.ref p) ⟨sl, (p, .lst ((srt lt (es.map (·.1))).map fk)) :: M, R⟩) : WC X F (.builtin "sorted") [d] ⟨sl, M, R⟩ Q :=
  haveI : KeyEnc fk g := ⟨kf.e, KeyInj.inj⟩
  wc_sortedK (g := g) hX (keys_as es) q
end
end DL

/-! The D layer, part 25: a dict that is only read is walked; len of dicts. -/
namespace DL
open PySem PySem.Spec PyProof.Rows L2
section
variable {F : Fr} {G : Hp} {σ : L2.St} {H : Hp} {sl : List (Option D)} {M R : Mem} {p : Addr}
/-- a heap without one thing -/
def lessP (G : Hp) (p : Addr) : Hp := fun a => if a = p then none else G a
theorem lessP_ne {G : Hp} {p a : Addr} (h : a ≠ p) : lessP G p a = G a := by unfold lessP; rw [if_neg h]
theorem lessP_at {G : Hp} {p : Addr} : lessP G p p = none := by unfold lessP; rw [if_pos rfl]
theorem lessP_some {G : Hp} {p a : Addr} {o : HO} (h : lessP G p a = some o) : a ≠ p ∧ G a = some o := by
  by_cases e : a = p
  · rw [e, lessP_at] at h; cases h
  · rw [lessP_ne e] at h; exact ⟨e, h⟩
theorem Rep.less {v : V} {d : D} (hp : ∀ vs, G p ≠ some (.tup vs) ∧ G p ≠ some (.lst vs)) (h : Rep G v d) : Rep (lessP G p) v d := by
  induction h with
  | non => exact .non
  | bl b => exact .bl b
  | int i => exact .int i
  | str x => exact .str x
  | ref p => exact .ref p
  | ty n => exact .ty n
  | @tup a vs ds h l _ ih => exact .tup (by rw [lessP_ne (a := a) fun e => (hp vs).1 (by rw [← e]; exact h)]; exact h) l ih
  | @lst a vs ds h l _ ih => exact .lst (by rw [lessP_ne (a := a) fun e => (hp vs).2 (by rw [← e]; exact h)]; exact h) l ih
theorem Reps.less {vs : List V} {ds : List D} (hp : ∀ vs, G p ≠ some (.tup vs) ∧ G p ≠ some (.lst vs)) (h : Reps G vs ds) : Reps (lessP G p) vs ds := ⟨h.1, fun i v d a b => (h.2 i v d a b).less hp⟩
theorem Shell.less {o : HO} {d : D} (hp : ∀ vs, G p ≠ some (.tup vs) ∧ G p ≠ some (.lst vs)) (h : Shell G o d) : Shell (lessP G p) o d := by
  cases h with
  | lst r => exact .lst (r.less hp)
  | dK a r => exact .dK a (r.less hp)
  | dT a r => exact .dT a (r.less hp)
  | ins a r => exact .ins a (r.less hp)
def isDict : HO → Prop
  | .dK _ => True
  | .dT _ => True
  | _ => False
theorem Holds.lockR {u : HO} {od : Obj} (hh : Holds F G ⟨sl, M, R⟩ σ H) (hu : F.B p = some u) (hd : isDict u) : Holds ⟨upd F.B p (.frz od u), lessP F.G0 p⟩ (lessP G p) ⟨sl, M, R⟩ σ (upd H p (.frz od u)) := by
  have hH : H p = some u := hh.bh _ _ hu
  have hp : ∀ vs, G p ≠ some (.tup vs) ∧ G p ≠ some (.lst vs) := fun vs => by
    refine ⟨fun e => ?_, fun e => ?_⟩ <;> (have e2 := hh.gh _ _ e; rw [hH] at e2; cases e2; exact hd.elim)
  refine ⟨fun b o e => ?_, fun b o e => ?_, fun b o e => ?_, fun b o e => ?_, fun b o e => ?_, hh.len, fun i d e => ?_, ⟨hh.mem.nd, fun q hq => ?_⟩, fun q hq => ?_⟩
  · obtain ⟨ne, e⟩ := lessP_some e
    rw [lessP_ne ne]; exact hh.g0 _ _ e
  · obtain ⟨ne, e⟩ := lessP_some e
    rw [upd_ne ne]; exact hh.gh _ _ e
  · by_cases hb : b = p
    · subst hb
      have e2 : upd F.B b (.frz od u) b = some o := e
      rw [upd_same] at e2 ⊢; exact e2
    · have e2 : upd F.B p (.frz od u) b = some o := e
      rw [upd_ne hb] at e2 ⊢; exact hh.bh _ _ e2
  · obtain ⟨ne, e⟩ := lessP_some e
    show upd F.B p (.frz od u) b = some o
    rw [upd_ne ne]; exact hh.gb _ _ e
  · obtain ⟨ne, e⟩ := lessP_some e
    rcases hh.nw b o e with z | z | z
    · refine .inl ?_
      show lessP F.G0 p b = some o
      rw [lessP_ne ne]; exact z
    · refine .inr (.inl ?_)
      show upd F.B p (.frz od u) b = none
      rw [upd_ne ne]; exact z
    · exact .inr (.inr z)
  · obtain ⟨v, a, b⟩ := hh.sl i d e
    exact ⟨v, a, b.less hp⟩
  · obtain ⟨a, b, o, c, d⟩ := hh.mem.at_ q hq
    have ne : q.1 ≠ p := fun e => by rw [e, hu] at a; cases a
    refine ⟨?_, ?_, o, ?_, d.less hp⟩
    · show upd F.B p (.frz od u) q.1 = none
      rw [upd_ne ne]; exact a
    · rw [lessP_ne ne]; exact b
    · rw [upd_ne ne]; exact c
  · obtain ⟨o, a, b⟩ := hh.rd q hq
    by_cases ne : q.1 = p
    · rcases a with a | ⟨z, a⟩
      · rw [ne, hu] at a
        cases a
        refine ⟨u, .inr ⟨od, ?_⟩, b.less hp⟩
        show upd F.B p (.frz od u) q.1 = _
        rw [ne, upd_same]
      · rw [ne, hu] at a
        cases a
        exact hd.elim
    · refine ⟨o, ?_, b.less hp⟩
      rcases a with a | ⟨z, a⟩
      · left
        show upd F.B p (.frz od u) q.1 = _
        rw [upd_ne ne]; exact a
      · right
        refine ⟨z, ?_⟩
        show upd F.B p (.frz od u) q.1 = _
        rw [upd_ne ne]; exact a
theorem Holds.unlockR {u : HO} {od : Obj} {G1 : Hp} {H1 : Hp} {σ1 : L2.St} {sl1 : List (Option D)} {M1 : Mem} (hh : Holds F G ⟨sl, M, R⟩ σ H) (hu : F.B p = some u) (hd : isDict u) (sg : Same (lessP G p) G1)
    (h : Holds ⟨upd F.B p (.frz od u), lessP F.G0 p⟩ G1 ⟨sl1, M1, R⟩ σ1 H1) : H1 p = some (.frz od u) ∧ ∃ G2, Same G G2 ∧ Same G1 G2 ∧ Holds F G2 ⟨sl1, M1, R⟩ σ1 (upd H1 p u) := by
  have hH1 : H1 p = some (.frz od u) := h.bh _ _ upd_same
  have hG1 : G1 p = none := by
    cases e : G1 p with
    | none => rfl
    | some o =>
      rcases h.nw p o e with z | z | ⟨vs, z⟩
      · have z2 : lessP F.G0 p p = some o := z
        rw [lessP_at] at z2; cases z2
      · have z2 : upd F.B p (.frz od u) p = none := z
        rw [upd_same] at z2; cases z2
      · have e2 := h.gh _ _ e
        rw [hH1, z] at e2; cases e2
  obtain ⟨G2, hG2⟩ : ∃ g : Hp, g = fun a => if a = p then G p else G1 a := ⟨_, rfl⟩
  have g2p : G2 p = G p := by rw [hG2]; simp
  have g2n : ∀ a, a ≠ p → G2 a = G1 a := fun a e => by rw [hG2]; simp [e]
  have s12 : Same G1 G2 := fun b o e => by
    have ne : b ≠ p := fun z => by rw [z, hG1] at e; cases e
    rw [g2n b ne]; exact e
  have s02 : Same G G2 := fun b o e => by
    by_cases ne : b = p
    · rw [ne, g2p, ← ne]; exact e
    · rw [g2n b ne]
      exact sg _ _ (by rw [lessP_ne ne]; exact e)
  refine ⟨hH1, G2, s02, s12, ⟨hh.g0.trans s02, fun b o e => ?_, fun b o e => ?_, hh.gb, fun b o e => ?_, h.len, fun i d e => ?_, ⟨h.mem.nd, fun q hq => ?_⟩, fun q hq => ?_⟩⟩
  · by_cases ne : b = p
    · subst ne
      rw [g2p] at e
      have e2 := hh.gh _ _ e
      rw [hh.bh _ _ hu] at e2
      cases e2
      exact upd_same
    · rw [g2n b ne] at e
      rw [upd_ne ne]; exact h.gh _ _ e
  · by_cases ne : b = p
    · subst ne
      rw [hu] at e
      cases e
      exact upd_same
    · rw [upd_ne ne]
      refine h.bh _ _ ?_
      show upd F.B p (.frz od u) b = some o
      rw [upd_ne ne]; exact e
  · by_cases ne : b = p
    · rw [ne, g2p] at e
      rw [ne]; exact hh.nw _ _ e
    · rw [g2n b ne] at e
      rcases h.nw b o e with z | z | z
      · exact .inl (lessP_some z).2
      · have z2 : upd F.B p (.frz od u) b = none := z
        rw [upd_ne ne] at z2
        exact .inr (.inl z2)
      · exact .inr (.inr z)
  · obtain ⟨v, a, b⟩ := h.sl i d e
    exact ⟨v, a, b.mono s12⟩
  · obtain ⟨a, b, o, c, d⟩ := h.mem.at_ q hq
    have a2 : upd F.B p (.frz od u) q.1 = none := a
    have ne : q.1 ≠ p := fun e => by rw [e, upd_same] at a2; cases a2
    rw [upd_ne ne] at a2
    exact ⟨a2, by rw [g2n _ ne]; exact b, o, by rw [upd_ne ne]; exact c, d.mono s12⟩
  · obtain ⟨o, a, b⟩ := h.rd q hq
    refine ⟨o, ?_, b.mono s12⟩
    by_cases ne : q.1 = p
    · rcases a with a | ⟨z, a⟩
      · have a2 : upd F.B p (.frz od u) q.1 = some o := a
        rw [ne, upd_same] at a2
        cases a2
        cases b
      · have a2 : upd F.B p (.frz od u) q.1 = some (.frz z o) := a
        rw [ne, upd_same] at a2
        cases a2
        rw [ne]; exact .inl hu
    · rcases a with a | ⟨z, a⟩
      · have a2 : upd F.B p (.frz od u) q.1 = some o := a
        rw [upd_ne ne] at a2; exact .inl a2
      · have a2 : upd F.B p (.frz od u) q.1 = some (.frz z o) := a
        rw [upd_ne ne] at a2; exact .inr ⟨z, a2⟩
end
section
variable {X : Cx} {F : Fr} {sl : List (Option D)} {M R : Mem} {p : Addr} {c : D} {k : Nat}
def isDictD : D → Prop
  | .dK _ => True
  | .dT _ => True
  | _ => False
theorem shell_dict {G : Hp} {o : HO} {c : D} (h : Shell G o c) (hc : isDictD c) : isDict o := by
  cases h with
  | lst _ => exact hc
  | dK _ _ => trivial
  | dT _ _ => trivial
  | ins _ _ => exact hc
theorem we_lockR {e : Expr} {Q : D → DL.Env → Prop} (p : Addr) [a : At R p c k] (hc : isDictD c) (h : ∀ F' : Fr, Lk F' p → WE X F' e ⟨sl, M, R⟩ fun d Γ => ∃ sl1 M1, Γ = ⟨sl1, M1, R⟩ ∧ Q d ⟨sl1, M1, R⟩) : WE X F e ⟨sl, M, R⟩ Q := fun G σ H hh K hK => by
  obtain ⟨u, hu, hs⟩ := hh.rd _ (List.mem_of_getElem? a.e)
  have hd := shell_dict hs hc
  rcases hu with hu | ⟨od, hu⟩
  · refine tU_lock (hh.bh _ _ hu) (mutS hs) fun od => h ⟨upd F.B p (.frz od u), lessP F.G0 p⟩ ⟨od, u, upd_same⟩ (lessP G p) σ _ (hh.lockR hu hd) _ ?_
    rintro d Γ' G' v H' ⟨sl1, M1, rfl, q⟩ sg h' rv
    obtain ⟨e2, G2, s02, s12, h2⟩ := hh.unlockR hu hd sg h'
    exact ⟨e2, hK _ _ G2 _ _ q s02 h2 (rv.mono s12)⟩
  · refine h F ⟨od, u, hu⟩ G σ H hh K fun d Γ' G' v H' ⟨sl1, M1, e, q⟩ sg h' rv => ?_
    subst e
    exact hK _ _ G' _ _ q sg h' rv
theorem ws_lockR {st : Stmt} {O : Out} (p : Addr) [a : At R p c k] (hc : isDictD c) (h : ∀ F' : Fr, Lk F' p → WS X F' st ⟨sl, M, R⟩ { nx := fun Γ => ∃ sl1 M1, Γ = ⟨sl1, M1, R⟩ ∧ O.nx Γ, rt := fun d Γ => ∃ sl1 M1, Γ = ⟨sl1, M1, R⟩ ∧ O.rt d Γ, bk := fun Γ => ∃ sl1 M1, Γ = ⟨sl1, M1, R⟩ ∧ O.bk Γ, ct := fun Γ => ∃ sl1 M1, Γ = ⟨sl1, M1, R⟩ ∧ O.ct Γ }) : WS X F st ⟨sl, M, R⟩ O := fun G σ H hh E hE => by
  obtain ⟨u, hu, hs⟩ := hh.rd _ (List.mem_of_getElem? a.e)
  have hd := shell_dict hs hc
  rcases hu with hu | ⟨od, hu⟩
  · refine tUS_lock (hh.bh _ _ hu) (mutS hs) fun od => h ⟨upd F.B p (.frz od u), lessP F.G0 p⟩ ⟨od, u, upd_same⟩ (lessP G p) σ _ (hh.lockR hu hd) _ ⟨?_, ?_, ?_, ?_⟩
    · rintro Γ' G' σ' H' ⟨sl1, M1, rfl, q⟩ sg h'
      obtain ⟨e2, G2, s02, s12, h2⟩ := hh.unlockR hu hd sg h'
      exact ⟨e2, hE.nx _ _ _ _ q s02 h2⟩
    · rintro d Γ' G' σ' v H' ⟨sl1, M1, rfl, q⟩ sg h' rv
      obtain ⟨e2, G2, s02, s12, h2⟩ := hh.unlockR hu hd sg h'
      exact ⟨e2, hE.rt _ _ _ _ _ _ q s02 h2 (rv.mono s12)⟩
    · rintro Γ' G' σ' H' ⟨sl1, M1, rfl, q⟩ sg h'
      obtain ⟨e2, G2, s02, s12, h2⟩ := hh.unlockR hu hd sg h'
      exact ⟨e2, hE.bk _ _ _ _ q s02 h2⟩
    · rintro Γ' G' σ' H' ⟨sl1, M1, rfl, q⟩ sg h'
      obtain ⟨e2, G2, s02, s12, h2⟩ := hh.unlockR hu hd sg h'
      exact ⟨e2, hE.ct _ _ _ _ q s02 h2⟩
  · refine h F ⟨od, u, hu⟩ G σ H hh E ⟨?_, ?_, ?_, ?_⟩
    · rintro Γ' G' σ' H' ⟨sl1, M1, rfl, q⟩ sg h'
      exact hE.nx _ _ _ _ q sg h'
    · rintro d Γ' G' σ' v H' ⟨sl1, M1, rfl, q⟩ sg h' rv
      exact hE.rt _ _ _ _ _ _ q sg h' rv
    · rintro Γ' G' σ' H' ⟨sl1, M1, rfl, q⟩ sg h'
      exact hE.bk _ _ _ _ q sg h'
    · rintro Γ' G' σ' H' ⟨sl1, M1, rfl, q⟩ sg h'
      exact hE.ct _ _ _ _ q sg h'
variable {Q : D → DL.Env → Prop} {d : D}
theorem wc_lenK {kds : List (Key × D)} [sd : SeeK M R d kds] (q : Q (.int (kds.length : Int)) ⟨sl, M, R⟩) : WC X F (.builtin "len") [d] ⟨sl, M, R⟩ Q := fun G σ H xs hh rr K hK pins s us I rv => by
  obtain ⟨v, rfl, r⟩ := rr.one
  obtain ⟨p, kvs, rfl, a, e1, _⟩ := hh.seeK r sd.see
  have el : kvs.length = kds.length := by have := congrArg List.length e1; simpa using this
  rw [Vals.ref1 rv]
  refine d_len I a fun t s' I' => ⟨.int kvs.length, H, I', ⟨t, rfl⟩, ?_⟩
  rw [el]
  exact hK.here hh q (.int _)
theorem wc_lenT {kds : List (List Key × D)} [sd : SeeDT M R d kds] (q : Q (.int (kds.length : Int)) ⟨sl, M, R⟩) : WC X F (.builtin "len") [d] ⟨sl, M, R⟩ Q := fun G σ H xs hh rr K hK pins s us I rv => by
  obtain ⟨v, rfl, r⟩ := rr.one
  obtain ⟨p, kvs, rfl, a, e1, _⟩ := hh.seeDT r sd.see
  have el : kvs.length = kds.length := by have := congrArg List.length e1; simpa using this
  rw [Vals.ref1 rv]
  obtain ⟨z, hd, ys, rel, dd⟩ := dt_rd I.hok a
  have hl : kvs.length = ys.length := Paired.length rel
  have hs : sizeLine = 16777216 := sizeLine_eq
  refine PySem.call_len_dictH hd dd (by rw [← hl]; omega) ?_
  rw [← hl, el]
  exact ⟨.int ((kds.length : Nat) : Int), H, I.tok _, ⟨_, rfl⟩, hK.here hh q (.int _)⟩
theorem wc_lenAsK {α β : Type} {g : α → Key} {f : β → D} {es : List (α × β)} [sd : SeeK M R d (asK g f es)] (q : Q (.int (es.length : Int)) ⟨sl, M, R⟩) : WC X F (.builtin "len") [d] ⟨sl, M, R⟩ Q := wc_lenK (by unfold asK; rw [List.length_map]; exact q)
theorem wc_lenAsT {α β : Type} {g : α → List Key} {f : β → D} {es : List (α × β)} [sd : SeeDT M R d (asK g f es)] (q : Q (.int (es.length : Int)) ⟨sl, M, R⟩) : WC X F (.builtin "len") [d] ⟨sl, M, R⟩ Q := wc_lenT (by unfold asK; rw [List.length_map]; exact q)
variable {K : List D → (DL.Env → Prop) → DL.Env → Prop} {tg : Expr}
/-- the keys of a dict, walked -/
theorem wiv_asK {α β : Type} {g : α → Key} {f : β → D} {fk : α → D} {es : List (α × β)} {j : Nat} [kf : KeyFor g fk] [lk : Lk F p] [r : At R p (.dK (asK g f es)) j] (h : K ((es.map (·.1)).map fk) (fun Γ' => Γ'.R = R) ⟨sl, M, R⟩) : WIV X F tg (.ref p) ⟨sl, M, R⟩ K := by
  refine wiv_keys (kds := asK g f es) ?_
  have e : ((asK g f es).map fun kd => kD kd.1) = (es.map (·.1)).map fk := by
    unfold asK
    rw [List.map_map, List.map_map]
    exact List.map_congr_left fun x _ => (kf.e x.1).symm
  rw [e]; exact h
end
end DL

/-! The D layer, part 26: comprehensions that only read; dict comprehensions; star arguments. -/
namespace DL
open PySem PySem.Spec PyProof.Rows L2
section
variable {P : Program} {w : World} {K : PySem.W.Frag} {mg : Str → Option Value} {base : Heap} {k : Nat} {X : Cx} {F : Fr} {Γ : DL.Env} {Q : D → DL.Env → Prop} {sl slw : List (Option D)} {M R : Mem} {elt c : Expr} {scope : Scope} {stand : DL.Env → Prop} {α β : Type} {f : α → D} {g : β → D}
theorem fz_mono {F : Fr} {d : D} {Γ : DL.Env} {Q Q' : D → DL.Env → Prop} (h : Fz F d Γ Q) (q : ∀ y Γ, Q y Γ → Q' y Γ) : Fz F d Γ Q' := fun G σ H v hh r => by
  obtain ⟨Γ', G', d', a, b⟩ := h G σ H v hh r
  exact ⟨Γ', G', d', q _ _ a, b⟩
/-- what an item gives: its word, all else as it was -/
def Pure1 (a : Addr) (acc : List D) (M R : Mem) (z : D) : D → DL.Env → Prop := fun y Γ => y = z ∧ ∃ s5, Γ = ⟨s5, (a, .lst acc) :: M, R⟩
theorem filter_at {p : α → Bool} {xs : List α} {i : Nat} {x : α} (h : xs[i]? = some x) : (xs.take (i + 1)).filter p = (xs.take i).filter p ++ if p x then [x] else [] := by
  rw [List.take_add_one, h, List.filter_append]
  simp only [Option.toList, List.filter_cons, List.filter_nil]
theorem map_at {xs : List α} {i : Nat} {x : α} (h : xs[i]? = some x) (g : α → D) : (xs.take (i + 1)).map g = (xs.take i).map g ++ [g x] := by
  rw [List.take_add_one, h, List.map_append]; rfl
/-- [e for x in xs] -/
theorem lc_map {i : Nat} {x : Str} {pos : Pos} (hX : In X P w K mg base k) (hN : X.N[i]? = some x) (hl : scope.names.lookup x = some .local ∨ scope.names.lookup x = some .cell) [h : WipeS sl [i] slw] {xs : List α} (m : α → D)
    (hst : ∀ a acc, stand ⟨slw, (a, .lst acc) :: M, R⟩) (hz : xs.length ≤ 16777216)
    (turn : ∀ a (j : Nat) y acc, xs[j]? = some y → Put i (f y) ⟨slw, (a, .lst acc) :: M, R⟩ fun Γ2 => ∀ X', IsBlk X X' scope → WE X' F elt Γ2 fun u Γ3 => Fz F u Γ3 (Pure1 a acc M R (m y)))
    (done : ∀ a, Q (.ref a) ⟨sl, (a, .lst (xs.map m)) :: M, R⟩) : LcAt X F (.Name x pos) elt [] scope [i] (xs.map f) stand ⟨sl, M, R⟩ Q := by
  refine lc_name hX hN hl (fun j acc M' => acc = (xs.take j).map m ∧ M' = M) ⟨rfl, rfl⟩ (fun a j acc M' hw => ?_) (fun a j d acc M' hd hw => ?_) (fun a acc M' hw => ?_)
  · obtain ⟨rfl, rfl⟩ := hw; exact hst a _
  · obtain ⟨rfl, rfl⟩ := hw
    rw [List.getElem?_map] at hd
    obtain ⟨y, hy, rfl⟩ := Option.map_eq_some_iff.mp hd
    refine fun X' hb => we_mono (turn a j y _ hy X' hb) ?_
    refine fun z Γ' hz2 => fz_mono hz2 ?_
    rintro z Γ' ⟨rfl, s5, rfl⟩
    have := (List.getElem?_eq_some_iff.mp hy).1
    exact ⟨_, _, rfl, by rw [List.length_map, List.length_take]; show _ < 16777216; omega, (map_at hy m).symm, rfl⟩
  · obtain ⟨rfl, rfl⟩ := hw
    rw [List.length_map, List.take_length]
    exact done a
/-- [e for x in xs if c] -/
theorem lc_filter {i : Nat} {x : Str} {pos : Pos} (hX : In X P w K mg base k) (hN : X.N[i]? = some x) (hl : scope.names.lookup x = some .local ∨ scope.names.lookup x = some .cell) [h : WipeS sl [i] slw] {xs : List α} (p : α → Bool) (m : α → D)
    (hst : ∀ a acc, stand ⟨slw, (a, .lst acc) :: M, R⟩) (hz : xs.length ≤ 16777216)
    (turn : ∀ a (j : Nat) y acc, xs[j]? = some y → Put i (f y) ⟨slw, (a, .lst acc) :: M, R⟩ fun Γ2 => ∀ X', IsBlk X X' scope → WT X' F c Γ2 fun b Γ3 => b = p y ∧ ∃ s5, Γ3 = ⟨s5, (a, .lst acc) :: M, R⟩ ∧ (p y = true → ∀ X', IsBlk X X' scope → WE X' F elt ⟨s5, (a, .lst acc) :: M, R⟩ fun u Γ3 => Fz F u Γ3 (Pure1 a acc M R (m y))))
    (done : ∀ a, Q (.ref a) ⟨sl, (a, .lst ((xs.filter p).map m)) :: M, R⟩) : LcAt X F (.Name x pos) elt [c] scope [i] (xs.map f) stand ⟨sl, M, R⟩ Q := by
  refine lc_name1 hX hN hl (fun j acc M' => acc = ((xs.take j).filter p).map m ∧ M' = M) ⟨rfl, rfl⟩ (fun a j acc M' hw => ?_) (fun a j d acc M' hd hw => ?_) (fun a acc M' hw => ?_)
  · obtain ⟨rfl, rfl⟩ := hw; exact hst a _
  · obtain ⟨rfl, rfl⟩ := hw
    rw [List.getElem?_map] at hd
    obtain ⟨y, hy, rfl⟩ := Option.map_eq_some_iff.mp hd
    have hlt := (List.getElem?_eq_some_iff.mp hy).1
    have hfl := List.length_filter_le p (xs.take j)
    rw [List.length_take] at hfl
    refine fun X' hb G σ H hh K hK => turn a j y _ hy X' hb G σ H hh K ?_
    rintro b Γ' G' H' ⟨rfl, s5, rfl, q⟩ sg h'
    refine hK (p y) _ G' H' ⟨fun hb X2 hb2 => we_mono (q hb X2 hb2) ?_, fun hb => ⟨s5, _, rfl, ?_, rfl⟩⟩ sg h'
    · refine fun z Γ2 hz2 => fz_mono hz2 ?_
      rintro z Γ2 ⟨rfl, s6, rfl⟩
      refine ⟨_, _, rfl, by rw [List.length_map]; show _ < 16777216; omega, ?_, rfl⟩
      rw [filter_at hy, if_pos hb, List.map_append]; rfl
    · rw [filter_at hy, hb]
      simp
  · obtain ⟨rfl, rfl⟩ := hw
    rw [List.length_map, List.take_length]
    exact done a
/-- [e for x, y in xs], [.. if c] -/
theorem lc_map2 {i i2 kt : Nat} {x x2 : Str} {pos p1 p2 : Pos} (hX : In X P w K mg base k) (hN : X.N[i]? = some x) (hl : scope.names.lookup x = some .local ∨ scope.names.lookup x = some .cell) (hN2 : X.N[i2]? = some x2) (hl2 : scope.names.lookup x2 = some .local ∨ scope.names.lookup x2 = some .cell) [h : WipeS sl [i, i2] slw] {xs : List α} (m f1 f2 : α → D)
    (hf : ∀ y, f y = .tup [f1 y, f2 y]) (hst : ∀ a acc, stand ⟨slw, (a, .lst acc) :: M, R⟩) (hz : xs.length ≤ 16777216)
    (turn : ∀ a (j : Nat) y acc, xs[j]? = some y → Put i (f1 y) ⟨slw, (a, .lst acc) :: M, R⟩ fun Γ1 => Put i2 (f2 y) Γ1 fun Γ2 => ∀ X', IsBlk X X' scope → WE X' F elt Γ2 fun u Γ3 => Fz F u Γ3 (Pure1 a acc M R (m y)))
    (done : ∀ a, Q (.ref a) ⟨sl, (a, .lst (xs.map m)) :: M, R⟩) : LcAt X F (.Tuple [.Name x p1, .Name x2 p2] kt pos) elt [] scope [i, i2] (xs.map f) stand ⟨sl, M, R⟩ Q := by
  refine lc_two hX hN hl hN2 hl2 (fun j acc M' => acc = (xs.take j).map m ∧ M' = M) ⟨rfl, rfl⟩ (fun a j acc M' hw => ?_) (fun a j d acc M' hd hw => ?_) (fun a acc M' hw => ?_)
  · obtain ⟨rfl, rfl⟩ := hw; exact hst a _
  · obtain ⟨rfl, rfl⟩ := hw
    rw [List.getElem?_map] at hd
    obtain ⟨y, hy, rfl⟩ := Option.map_eq_some_iff.mp hd
    have := (List.getElem?_eq_some_iff.mp hy).1
    refine ⟨f1 y, f2 y, hf y, fun X' hb => we_mono (turn a j y _ hy X' hb) ?_⟩
    refine fun z Γ' hz2 => fz_mono hz2 ?_
    rintro z Γ' ⟨rfl, s5, rfl⟩
    exact ⟨_, _, rfl, by rw [List.length_map, List.length_take]; show _ < 16777216; omega, (map_at hy m).symm, rfl⟩
  · obtain ⟨rfl, rfl⟩ := hw
    rw [List.length_map, List.take_length]
    exact done a
theorem lc_filter2 {i i2 kt : Nat} {x x2 : Str} {pos p1 p2 : Pos} (hX : In X P w K mg base k) (hN : X.N[i]? = some x) (hl : scope.names.lookup x = some .local ∨ scope.names.lookup x = some .cell) (hN2 : X.N[i2]? = some x2) (hl2 : scope.names.lookup x2 = some .local ∨ scope.names.lookup x2 = some .cell) [h : WipeS sl [i, i2] slw] {xs : List α} (p : α → Bool) (m f1 f2 : α → D)
    (hf : ∀ y, f y = .tup [f1 y, f2 y]) (hst : ∀ a acc, stand ⟨slw, (a, .lst acc) :: M, R⟩) (hz : xs.length ≤ 16777216)
    (turn : ∀ a (j : Nat) y acc, xs[j]? = some y → Put i (f1 y) ⟨slw, (a, .lst acc) :: M, R⟩ fun Γ1 => Put i2 (f2 y) Γ1 fun Γ2 => ∀ X', IsBlk X X' scope → WT X' F c Γ2 fun b Γ3 => b = p y ∧ ∃ s5, Γ3 = ⟨s5, (a, .lst acc) :: M, R⟩ ∧ (p y = true → ∀ X', IsBlk X X' scope → WE X' F elt ⟨s5, (a, .lst acc) :: M, R⟩ fun u Γ3 => Fz F u Γ3 (Pure1 a acc M R (m y))))
    (done : ∀ a, Q (.ref a) ⟨sl, (a, .lst ((xs.filter p).map m)) :: M, R⟩) : LcAt X F (.Tuple [.Name x p1, .Name x2 p2] kt pos) elt [c] scope [i, i2] (xs.map f) stand ⟨sl, M, R⟩ Q := by
  refine lc_two1 hX hN hl hN2 hl2 (fun j acc M' => acc = ((xs.take j).filter p).map m ∧ M' = M) ⟨rfl, rfl⟩ (fun a j acc M' hw => ?_) (fun a j d acc M' hd hw => ?_) (fun a acc M' hw => ?_)
  · obtain ⟨rfl, rfl⟩ := hw; exact hst a _
  · obtain ⟨rfl, rfl⟩ := hw
    rw [List.getElem?_map] at hd
    obtain ⟨y, hy, rfl⟩ := Option.map_eq_some_iff.mp hd
    have hlt := (List.getElem?_eq_some_iff.mp hy).1
    have hfl := List.length_filter_le p (xs.take j)
    rw [List.length_take] at hfl
    refine ⟨f1 y, f2 y, hf y, fun X' hb G σ H hh K hK => turn a j y _ hy X' hb G σ H hh K ?_⟩
    rintro b Γ' G' H' ⟨rfl, s5, rfl, q⟩ sg h'
    refine hK (p y) _ G' H' ⟨fun hb X2 hb2 => we_mono (q hb X2 hb2) ?_, fun hb => ⟨s5, _, rfl, ?_, rfl⟩⟩ sg h'
    · refine fun z Γ2 hz2 => fz_mono hz2 ?_
      rintro z Γ2 ⟨rfl, s6, rfl⟩
      refine ⟨_, _, rfl, by rw [List.length_map]; show _ < 16777216; omega, ?_, rfl⟩
      rw [filter_at hy, if_pos hb, List.map_append]; rfl
    · rw [filter_at hy, hb]
      simp
  · obtain ⟨rfl, rfl⟩ := hw
    rw [List.length_map, List.take_length]
    exact done a
end
/-! ### {k: v for x in .. if ..} -/
section
variable {X : Cx} {F : Fr} {Γ : DL.Env} {Q : D → DL.Env → Prop}
def DcEnd (a : Addr) (acc : List (Key × D)) (R : Mem) (W : List (Key × D) → Mem → Prop) (y z : D) (Γ : DL.Env) : Prop := ∃ k s5 M5, y = kD k ∧ Γ = ⟨s5, (a, .dK acc) :: M5, R⟩ ∧ acc.length < sizeLine ∧ W (putD acc k z) M5
def DcPost (X : Cx) (F : Fr) (tg kx vx : Expr) (ifs : List Expr) (scope : Scope) (vs : List Nat) (sl : List (Option D)) (M R : Mem) (items : List D) (stand : DL.Env → Prop) (a : Addr) (Q : List (Key × D) → Mem → Prop) : Prop :=
  ∃ W : Nat → List (Key × D) → Mem → Prop, W 0 [] M ∧ (∀ i acc M', W i acc M' → stand ⟨wipeD sl vs, (a, .dK acc) :: M', R⟩) ∧
    (∀ (i : Nat) x acc M', items[i]? = some x → W i acc M' → ∀ X', IsBlk X X' scope → WGC X' F tg x vs ⟨wipeD sl vs, (a, .dK acc) :: M', R⟩ fun Γ2 => ∀ X', IsBlk X X' scope → WTs X' F ifs Γ2 fun b Γ3 =>
      (b = true → ∀ X', IsBlk X X' scope → WE X' F kx Γ3 fun y Γ4 => ∀ X', IsBlk X X' scope → WE X' F vx Γ4 fun z Γ5 => Fz F z Γ5 fun z Γ6 => DcEnd a acc R (W (i + 1)) y z Γ6) ∧
      (b = false → ∃ s5 M5, Γ3 = ⟨s5, (a, .dK acc) :: M5, R⟩ ∧ W (i + 1) acc M5)) ∧
    ∀ acc M', W items.length acc M' → Q acc M'
theorem dc_sem {tg kx vx iter : Expr} {ifs : List Expr} {scope : Scope} {own : List (Str × Nat)}
    (h : WI X F tg iter Γ fun items stand Γ1 => ∀ a, DcPost X F tg kx vx ifs scope (own.map (·.2)) Γ1.sl Γ1.M Γ1.R items stand a fun acc M' => Q (.ref a) ⟨Γ1.sl, (a, .dK acc) :: M', Γ1.R⟩) {G : Hp} {σ : L2.St} {H : Hp} (hh : Holds F G Γ σ H) {K : VK} (hK : Good F Q G σ K) :
    tDc (tUI X tg iter) (tgB X tg scope) (ttB X ifs scope) (teB X kx scope) (teB X vx scope) (own.map (·.2)) σ H K := by
  refine h G σ H hh _ fun items stand Γ1 G1 H1 J hp s1 h1 js => ?_
  intro a ha
  obtain ⟨W, w0, wst, turn, done⟩ := hp a
  have start : Holds F G1 ⟨wipeD Γ1.sl (own.map (·.2)), (a, .dK []) :: Γ1.M, Γ1.R⟩ (wipe σ (own.map (·.2))) (upd H1 a (.dK [])) := (h1.newOwn (o := .dK []) ha (.dK rfl Reps.nil)).wiped (own.map (·.2))
  refine ⟨fun i m H' => i + m = items.length ∧ ∃ acc M' G', Same G1 G' ∧ Holds F G' ⟨wipeD Γ1.sl (own.map (·.2)), (a, .dK acc) :: M', Γ1.R⟩ (wipe σ (own.map (·.2))) H' ∧ W i acc M', ⟨items.length, by omega, [], Γ1.M, G1, Same.refl _, start, w0⟩, fun i m H' hW => ?_⟩
  obtain ⟨em, acc, M', G', sg, h', w⟩ := hW
  obtain ⟨stop, go⟩ := js _ G' _ H' sg h' (wst i acc M' w)
  by_cases hi : i < items.length
  · obtain ⟨g1, g2⟩ := go i items[i] (List.getElem?_eq_getElem hi)
    have next : ∀ {s5 : List (Option D)} {acc' : List (Key × D)} {M5 : Mem} {G5 : Hp} {σ5 : L2.St} {H5 : Hp}, Same G1 G5 → Holds F G5 ⟨s5, (a, .dK acc') :: M5, Γ1.R⟩ σ5 H5 → W (i + 1) acc' M5 →
        i + 1 + (m - 1) = items.length ∧ ∃ acc M' G', Same G1 G' ∧ Holds F G' ⟨wipeD Γ1.sl (own.map (·.2)), (a, .dK acc) :: M', Γ1.R⟩ (wipe σ (own.map (·.2))) H5 ∧ W (i + 1) acc M' := fun {s5 acc' M5 G5 σ5 H5} s5' h5 w5 => by
      refine ⟨by omega, acc', M5, G5, s5', h5.slots start.len fun j d e => ?_, w5⟩
      obtain ⟨v, c, r⟩ := start.sl j d e
      exact ⟨v, c, r.mono s5'⟩
    refine .inr ⟨g1, fun H'' => i + 1 + (m - 1) = items.length ∧ ∃ acc M' G', Same G1 G' ∧ Holds F G' ⟨wipeD Γ1.sl (own.map (·.2)), (a, .dK acc) :: M', Γ1.R⟩ (wipe σ (own.map (·.2))) H'' ∧ W (i + 1) acc M', fun H'' z => ⟨m - 1, by omega, z⟩, fun v H'' y => ?_⟩
    obtain ⟨G2, s2, h2, r2⟩ := g2 v H'' y
    intro sh H0 C cl fp
    refine turn i _ acc M' (List.getElem?_eq_getElem hi) w _ ⟨sh, H0, C, cl, fp, rfl⟩ G2 _ H'' v h2 r2 _ fun Γ2 G3 σ3 H3 q3 s3 h3 e3 => ?_
    refine ⟨by rw [e3, wipe_wipe], ?_⟩
    intro sh H0 C cl fp
    intro pins s' I
    refine q3 _ ⟨sh, H0, C, cl, fp, rfl⟩ G3 σ3 H3 h3 _ (fun b Γ4 G4 H4 q4 s4 h4 => ?_) pins s' I
    cases b with
    | false =>
      rw [if_neg Bool.false_ne_true]
      obtain ⟨s5, M5, rfl, w5⟩ := q4.2 rfl
      exact next (((sg.trans s2).trans s3).trans s4) h4 w5
    | true =>
      rw [if_pos rfl]
      intro sh H0 C cl fp
      refine q4.1 rfl _ ⟨sh, H0, C, cl, fp, rfl⟩ G4 σ3 H4 h4 _ fun y Γ5 G5 vy H5 q5 s5 h5 r5 => ?_
      intro sh H0 C cl fp
      refine we_fz (q5 _ ⟨sh, H0, C, cl, fp, rfl⟩) G5 σ3 H5 h5 _ fun z Γ6 G6 vz H6 q6 s6 h6 r6 => ?_
      obtain ⟨kk, sl6, M6, rfl, rfl, hl, w6⟩ := q6
      obtain ⟨_, _, o, ho, hs⟩ := h6.mem.at_ (a, .dK acc) List.mem_cons_self
      obtain ⟨kvs, rfl, e1, e2⟩ := hs.dK_inv
      have el : kvs.length = acc.length := by have := congrArg List.length e1; simpa using this
      obtain ⟨p1, p2⟩ := put_rep kk r6 e1 e2
      refine ⟨kvs, kk, r5.kD_inv, ho, by rw [el]; exact hl, ?_⟩
      have hw := h6.write (k := 0) (c := .dK acc) (c' := .dK (putD acc kk z)) (o' := .dK (putK kvs kk vz)) rfl (.dK p1 p2)
      exact next (((((sg.trans s2).trans s3).trans s4).trans s5).trans s6) hw w6
  · have ei : i = items.length := by omega
    subst ei
    refine .inl ⟨stop, hK _ _ G' _ _ (done acc M' w) (s1.trans sg) ?_ (.ref a)⟩
    refine h'.slots h1.len fun j d e => ?_
    obtain ⟨v, c, r⟩ := h1.sl j d e
    exact ⟨v, c, r.mono sg⟩
theorem we_dc {tg kx vx iter : Expr} {ifs : List Expr} {scope : Scope} {own : List (Str × Nat)} {pos : Pos} (hX : Std X) (ok : BlkOk X.N X.env.scope scope own) (plain : ∀ x, foldedSetIterable iter X.env x = pure x)
    (h : WI X F tg iter Γ fun items stand Γ1 => ∀ a, DcPost X F tg kx vx ifs scope (own.map (·.2)) Γ1.sl Γ1.M Γ1.R items stand a fun acc M' => Q (.ref a) ⟨Γ1.sl, (a, .dK acc) :: M', Γ1.R⟩) :
    WE X F (.DictComp kx vx [⟨tg, iter, ifs, 0⟩] scope pos) Γ Q := fun G σ H hh K hK => by
  refine tU_of (pe_dc (g := tgB X tg scope) (tt := ttB X ifs scope) (tk := teB X kx scope) (tv := teB X vx scope) hX.calm hX.nd pi_U ok (fun z Hz C cl fp => pg_B z Hz C cl fp) (fun z Hz C cl fp => pts_B z Hz C cl fp) (fun z Hz C cl fp => pe_B z Hz C cl fp) (fun z Hz C cl fp => pe_B z Hz C cl fp) plain) ?_
  exact dc_sem h hh hK
def DcAt (X : Cx) (F : Fr) (tg kx vx : Expr) (ifs : List Expr) (scope : Scope) (vs : List Nat) (items : List D) (stand : DL.Env → Prop) (Γ : DL.Env) (Q : D → DL.Env → Prop) : Prop :=
  ∀ a, DcPost X F tg kx vx ifs scope vs Γ.sl Γ.M Γ.R items stand a fun acc M' => Q (.ref a) ⟨Γ.sl, (a, .dK acc) :: M', Γ.R⟩
theorem we_dc' {tg kx vx iter : Expr} {ifs : List Expr} {scope : Scope} {own : List (Str × Nat)} {vs : List Nat} {pos : Pos} (hX : Std X) (ok : BlkOk X.N X.env.scope scope own) (hs : ∀ x, foldedSetIterable iter X.env x = pure x) (hv : own.map (·.2) = vs)
    (h : WI X F tg iter Γ fun items stand Γ1 => DcAt X F tg kx vx ifs scope vs items stand Γ1 Q) : WE X F (.DictComp kx vx [⟨tg, iter, ifs, 0⟩] scope pos) Γ Q := we_dc hX ok hs (by rw [hv]; exact h)
variable {P : Program} {w : World} {K : PySem.W.Frag} {mg : Str → Option Value} {base : Heap} {k : Nat} {sl slw : List (Option D)} {M R : Mem} {kx vx c : Expr} {scope : Scope} {stand : DL.Env → Prop} {α β γ : Type} {f : α → D}
/-- the rows that are put one after another -/
def putAll [DecidableEq β] (kb : α → β) (vb : α → γ) (xs : List α) : List (β × γ) := xs.foldl (fun es x => putE es (kb x) (vb x)) []
theorem putAll_at [DecidableEq β] {kb : α → β} {vb : α → γ} {xs : List α} {i : Nat} {x : α} (h : xs[i]? = some x) : putAll kb vb (xs.take (i + 1)) = putE (putAll kb vb (xs.take i)) (kb x) (vb x) := by
  unfold putAll
  rw [List.take_add_one, h, List.foldl_append]; rfl
theorem putAll_len [DecidableEq β] (kb : α → β) (vb : α → γ) (xs : List α) : (putAll kb vb xs).length ≤ xs.length := by
  have aux : ∀ (xs : List α) (es : List (β × γ)), (xs.foldl (fun es x => putE es (kb x) (vb x)) es).length ≤ es.length + xs.length := by
    intro xs
    induction xs with
    | nil => intro es; exact Nat.le_refl _
    | cons x xs ih =>
      intro es
      have h1 := ih (putE es (kb x) (vb x))
      have h2 := putE_len es (kb x) (vb x)
      rw [List.foldl_cons, List.length_cons]
      omega
  have := aux xs []
  rw [List.length_nil, Nat.zero_add] at this
  exact this
/-- {k: v for x in xs}, reading alone -/
theorem dc_map [DecidableEq β] {gk : β → Key} [KeyInj gk] {fv : γ → D} {i : Nat} {x : Str} {pos : Pos} (hX : In X P w K mg base k) (hN : X.N[i]? = some x) (hl : scope.names.lookup x = some .local ∨ scope.names.lookup x = some .cell) [h : WipeS sl [i] slw] {xs : List α} (kb : α → β) (vb : α → γ)
    (hst : ∀ a acc, stand ⟨slw, (a, .dK acc) :: M, R⟩) (hz : xs.length ≤ 16777216)
    (turn : ∀ a (j : Nat) y acc, xs[j]? = some y → Put i (f y) ⟨slw, (a, .dK acc) :: M, R⟩ fun Γ2 => ∀ X', IsBlk X X' scope → WE X' F kx Γ2 fun u Γ3 => u = kD (gk (kb y)) ∧ ∃ s5, Γ3 = ⟨s5, (a, .dK acc) :: M, R⟩ ∧ ∀ X', IsBlk X X' scope → WE X' F vx ⟨s5, (a, .dK acc) :: M, R⟩ fun z Γ4 => z = fv (vb y) ∧ ∃ s6, Γ4 = ⟨s6, (a, .dK acc) :: M, R⟩)
    (done : ∀ a, Q (.ref a) ⟨sl, (a, .dK (asK gk fv (putAll kb vb xs))) :: M, R⟩) : DcAt X F (.Name x pos) kx vx [] scope [i] (xs.map f) stand ⟨sl, M, R⟩ Q := fun a => by
  refine ⟨fun j acc M' => acc = asK gk fv (putAll kb vb (xs.take j)) ∧ M' = M, ⟨rfl, rfl⟩, fun j acc M' hw => ?_, fun j d acc M' hd hw X' hb => ?_, fun acc M' hw => ?_⟩
  · obtain ⟨rfl, rfl⟩ := hw
    rw [← h.e]; exact hst a _
  · obtain ⟨rfl, rfl⟩ := hw
    rw [List.getElem?_map] at hd
    obtain ⟨y, hy, rfl⟩ := Option.map_eq_some_iff.mp hd
    have hlt := (List.getElem?_eq_some_iff.mp hy).1
    have hpl := putAll_len kb vb (xs.take j)
    rw [List.length_take] at hpl
    rw [← h.e]
    have hX' := (hb.inn hX).std
    refine wgc_name hX' (hb.store hN hl) List.mem_cons_self ?_
    intro X2 hb2
    refine wts_nil ⟨fun _ X3 hb3 => ?_, fun z => Bool.noConfusion z⟩
    refine we_mono (turn a j y _ hy X3 hb3) ?_
    rintro u Γ3 ⟨rfl, s5, rfl, q⟩ X4 hb4
    refine we_mono (q X4 hb4) ?_
    rintro z Γ4 ⟨rfl, s6, rfl⟩
    refine fz_id ⟨_, s6, _, rfl, rfl, by rw [asK_len]; show _ < 16777216; omega, ?_, rfl⟩
    rw [put_as, putAll_at hy]
  · obtain ⟨rfl, rfl⟩ := hw
    rw [List.length_map, List.take_length]
    exact done a
end
end DL

/-! The D layer, part 27: star arguments. -/
namespace DL
open PySem PySem.Spec PyProof.Rows L2
section
variable {P : Program} {w : World} {K : PySem.W.Frag} {mg : Str → Option Value} {base : Heap}
theorem body_ok {x : Str} {st : Stmt} {f : Addr} {N ps : List Str} {k : Nat} {S : SpD} (Sc : FnScope N ps (defScope st))
    (hbody : ∀ (X : Cx) (F : Fr), In X P w K mg base k → Nm X N (defScope st) → ∀ ds M R Q, S ds M R Q → WSs X F (defBody st) ⟨startD N.length ds, M, R⟩ (outD Q))
    {cdv : Value} {A : Around} {outer : List PySem.Env} {s : Shared} {H : Hp} {vs : List V} {Q : VK} {E : XK} (hr : Room k (A.deeper (envOfC x (defScope st) s.heap.objs.size f cdv))) (h : SpOf S vs H Q E) :
    ∃ t, PSs (cxOf CX0 P w K mg base N x (defScope st) f cdv A outer s H E) (defBody st) t ∧ t { nx := fun _ H' => Q .non H', rt := Q } (L2.start N vs) H := by
  obtain ⟨ds, M, R, B, G, Pq, r, gb, bh, mk, rk, hS, q⟩ := h
  refine ⟨tUSs _ (defBody st), PSs.nox pss_U, ?_⟩
  have hin : In (cxOf CX0 P w K mg base N x (defScope st) f cdv A outer s H E).nox P w K mg base k := ⟨rfl, rfl, rfl, rfl, rfl, hr, rfl, Sc.nd, rfl⟩
  obtain ⟨e1, e2⟩ := start_reps (N := N) r
  refine hbody _ ⟨B, G⟩ hin ⟨rfl, rfl, rfl⟩ ds M R Pq hS G (L2.start N vs) H ⟨Same.refl _, gb.trans bh, bh, gb, fun p o e => .inl e, e1, e2, mk, rk⟩ _ ⟨?_, ?_, ?_, ?_⟩
  · intro Γ' G' σ' H' ⟨M', nd, sb, hp⟩ sg hh
    exact q .non M' G' .non H' hp sg hh.gh hh.bh hh.nw ⟨nd, fun z hz => hh.mem.at_ z (sb z hz)⟩ .non
  · intro d Γ' G' σ' v H' ⟨M', nd, sb, hp⟩ sg hh rv
    exact q d M' G' v H' hp sg hh.gh hh.bh hh.nw ⟨nd, fun z hz => hh.mem.at_ z (sb z hz)⟩ rv
  · exact fun _ _ _ _ z => z.elim
  · exact fun _ _ _ _ z => z.elim
/-- what a caller knows of def x(*names): S of the arguments -/
structure CalS (P : Program) (w : World) (K : PySem.W.Frag) (mg : Str → Option Value) (base : Heap) (k : Nat) (x : Str) (S : SpD) : Prop where
  ex : ∃ f : Addr, FnR P w K mg base CX0 k f (SpOf S) ∧ mg x = some (.ref f) ∧ PySem.W.keepIn K (.ref f) = true
theorem calS {x pv : Str} {st : Stmt} {N : List Str} {k : Nat} {S : SpD} (Da : DefAt K mg x st) (Sc : FnScope N [pv] (defScope st))
    (h0 : ∀ (kV doc pm : Value) (an : Option Addr) (cdv ct : Value), bindArgs (PySem.W.fnOf x x (defArgs st) (defBody st) (defScope st) .none kV doc pm an cdv ct) ⟨[], []⟩ = (newTuple [] >>= fun t => pure [(pv, t)]))
    (h1 : ∀ (kV doc pm : Value) (an : Option Addr) (cdv ct : Value) (r : Value) (rs : List Value), bindArgs (PySem.W.fnOf x x (defArgs st) (defBody st) (defScope st) .none kV doc pm an cdv ct) ⟨r :: rs, []⟩ = (newTuple (r :: rs) >>= fun t => pure [(pv, t)]))
    (len : ∀ ds M R Q, S ds M R Q → ds.length ≤ sizeLine)
    (hbody : ∀ (X : Cx) (F : Fr), In X P w K mg base k → Nm X N (defScope st) → ∀ ds M R Q, S ds M R Q → WSs X F (defBody st) ⟨startD N.length [.tup ds], M, R⟩ (outD Q)) : CalS P w K mg base (k + 1) x S := by
  obtain ⟨f, fd, Fu, hm⟩ := Da
  obtain ⟨oc, od, kV, doc, pm, an, cdv, ct, osl, rfl, lk, hcd⟩ := Fu.ex
  refine ⟨f, ?_, hm, Fu.kp⟩
  have main := StX.fn_star (ps := []) (CX := CX0) (sp := SpOf fun ds' M R Q => ∃ ds, ds' = [D.tup ds] ∧ S ds M R Q) (P := P) (w := w) (K := K) (mg := mg) (base := base) (k := k) lk hcd Sc StX.cxUp_none (fun us rest hl => by
    obtain rfl : us = [] := List.eq_nil_of_length_eq_zero hl
    cases rest with
    | nil => exact h0 kV doc pm an cdv ct
    | cons r rs => exact h1 kV doc pm an cdv ct r rs) (fun A outer s H vs Q E hr h => body_ok (S := fun ds' M R Q => ∃ ds, ds' = [D.tup ds] ∧ S ds M R Q) Sc (fun X F hX nm ds' M R Q hS => by
      obtain ⟨ds, rfl, hS⟩ := hS
      exact hbody X F hX nm ds M R Q hS) hr h)
  refine main.imp fun vs H Q E h => ?_
  obtain ⟨ds, M, R, B, G, Pq, r, gb, bh, mk, rk, hS, q⟩ := h
  refine ⟨[], vs, rfl, rfl, by rw [r.1]; exact len _ _ _ _ hS, fun p hp => ?_⟩
  have hB : B p = none := bh.free hp
  have hG : G p = none := gb.free hB
  have up : ∀ {A : Hp} {o : HO}, A p = none → Same A (upd A p o) := fun {A o} z b u e => by rw [upd_ne (ne_of_none e z)]; exact e
  have mono : Same (upd B p (.tup vs)) (upd H p (.tup vs)) := fun b u e => by
    by_cases hb : b = p
    · subst hb; rw [upd_same] at e ⊢; exact e
    · rw [upd_ne hb] at e ⊢; exact bh _ _ e
  have sgb : Same (upd G p (.tup vs)) (upd B p (.tup vs)) := fun b u e => by
    by_cases hb : b = p
    · subst hb; rw [upd_same] at e ⊢; exact e
    · rw [upd_ne hb] at e ⊢; exact gb _ _ e
  refine ⟨[.tup ds], M, R, upd B p (.tup vs), upd G p (.tup vs), Pq, Reps.cons (.tup upd_same r.1 fun i v d a b => (r.2 i v d a b).mono (up hG)) Reps.nil, sgb, mono, ⟨mk.nd, fun z hz => ?_⟩, fun z hz => ?_, ⟨ds, rfl, hS⟩, ?_⟩
  · obtain ⟨a, b, o, c, d⟩ := mk.at_ z hz
    have ne : z.1 ≠ p := ne_of_none c hp
    exact ⟨by rw [upd_ne ne]; exact a, by rw [upd_ne ne]; exact b, o, by rw [upd_ne ne]; exact c, d.mono (up hG)⟩
  · obtain ⟨o, a, b⟩ := rk z hz
    refine ⟨o, ?_, b.mono (up hG)⟩
    rcases a with a | ⟨y, a⟩
    · exact .inl (up hB _ _ a)
    · exact .inr ⟨y, up hB _ _ a⟩
  · intro d M' G' v H' hP sg gh' bh' nw' mk' rv
    refine q d M' G' v H' hP ((up hG).trans sg) gh' ((up hB).trans bh') (fun b o e => ?_) ⟨mk'.nd, fun z hz => ?_⟩ rv
    · rcases nw' b o e with z | z | z
      · by_cases hb : b = p
        · subst hb
          rw [upd_same] at z
          cases z
          exact .inr (.inr ⟨vs, rfl⟩)
        · rw [upd_ne hb] at z; exact .inl z
      · refine .inr (.inl ?_)
        by_cases hb : b = p
        · rw [hb]; exact hB
        · rw [upd_ne hb] at z; exact z
      · exact .inr (.inr z)
    · obtain ⟨a, r⟩ := mk'.at_ z hz
      refine ⟨?_, r⟩
      by_cases hb : z.1 = p
      · rw [hb]; exact hB
      · rw [upd_ne hb] at a; exact a
variable {X : Cx} {F : Fr} {Γ : DL.Env} {Q : D → DL.Env → Prop} {sl sl' : List (Option D)} {M M' R : Mem}
/-- the items of d are handed over as arguments -/
def StarD (S : SpD) (d : D) (Γ : DL.Env) (Q : D → DL.Env → Prop) : Prop := ∃ ds, (See Γ.M Γ.R d (.lst ds) ∨ See Γ.M Γ.R d (.tup ds)) ∧ Own0 S ds Γ Q
theorem star_go {S : SpD} {d : D} {ds : List D} [sd : SeeQ M R d ds] (q : Own0 S ds ⟨sl, M, R⟩ Q) : StarD S d ⟨sl, M, R⟩ Q := ⟨ds, sd.see, q⟩
/-- x(*e) -/
theorem we_callS {k j : Nat} {S : SpD} {x : Str} {p pos q : Pos} {e : Expr} (c : CalS P w K mg base k x S) (hX : In X P w K mg base j) (hj : k ≤ j) (hg : Gl X x) (hdb : (x == ("__debug__" : Str)) = false) (hst : starEach [.Starred e q] X.env = [(true, eval e X.env)])
    (h : WE X F e Γ fun d Γ1 => StarD S d Γ1 Q) : WE X F (.Call (.Name x p) [.Starred e q] [] pos) Γ Q := fun G σ H hh R hR => by
  obtain ⟨f, Fn, hm, hk⟩ := c.ex
  obtain ⟨rfl, rfl, rfl, rfl, rfl, room, calm, nd, nox⟩ := hX
  refine tU_of (StX.pe_callS1 Fn (room.mono hj) hk hg hm (E := fun _ _ _ => False) pass0 pe_U hdb hst) ?_
  refine h G σ H hh _ fun d Γ1 G1 v H1 q1 s1 h1 r1 => ?_
  obtain ⟨ds, see, q1⟩ := q1
  have fin : ∀ vs, Reps G1 vs ds → SpOf S vs H1 R (fun _ _ _ => False) := fun vs rr => call_sem (M0 := []) h1 rr (List.Perm.refl _) q1 _ _ fun d M' G' v H' hq sg h' rv => hR d _ G' v H' hq (s1.trans sg) h' rv
  rcases see with s | s
  · obtain ⟨a, vs, rfl, hS, hr⟩ := h1.seeL (K := X.K) r1 s
    exact ⟨a, vs, rfl, .inr hS, fin vs hr⟩
  · obtain ⟨a, vs, rfl, hS, hr⟩ := h1.seeT (K := X.K) r1 s
    exact ⟨a, vs, rfl, .inl hS, fin vs hr⟩
end
end DL

/-! The D layer, part 28: sorted(d), d a dict whose keys are tuples. -/
namespace DL
open PySem PySem.Spec PyProof.Rows L2 PySem.W
def leT (j k : List Key) : Bool := leD (.tup (j.map kD)) (.tup (k.map kD))
/-- the keys of a dict with tuple keys, where they stand -/
def KeyPl (H : Hp) (kvs : List (List Key × V)) (bs : List (Addr × List Key)) : Prop := bs.map (·.2) = kvs.map (·.1) ∧ ∀ b ∈ bs, H b.1 = some (.tup (b.2.map kV))
theorem keyPl_of {H : Hp} {kvs : List (List Key × V)} {xs : List (List Key × Addr × Value)} (r : KT H kvs xs) : KeyPl H kvs (xs.map fun x => (x.2.1, x.1)) := by
  induction r with
  | nil => exact ⟨rfl, fun _ h => by cases h⟩
  | @cons p q ps qs hq t ih =>
    refine ⟨?_, fun b hb => ?_⟩
    · have e : q.1 = p.1 := hq.1.symm
      show q.1 :: _ = p.1 :: _
      rw [e]
      exact congrArg _ ih.1
    · rcases List.mem_cons.mp hb with rfl | hb
      · show H q.2.1 = some (.tup (q.1.map kV))
        rw [← hq.1]; exact hq.2.1
      · exact ih.2 b hb
section
variable {X : Cx}
theorem call_sortedDT (calm : X.calm = true) (hu : X.A.units + 64 < cLine) : CallR X (.builtin "sorted") (fun vs H Q => ∃ (a : Addr) (kvs : List (List Key × V)), vs = [.ref a] ∧ Rd H a (.dT kvs) ∧ (∀ j ∈ kvs, ∀ k ∈ kvs, alike (dat (.tup (j.1.map kD))) (dat (.tup (k.1.map kD))) = true) ∧ (∀ j ∈ kvs, j.1 ≠ []) ∧
    ∀ (p : Addr) (bs : List (Addr × List Key)), H p = none → (∀ b ∈ bs, H b.1 = some (.tup (b.2.map kV))) → bs.map (·.2) = (kvs.map (·.1)).mergeSort leT → Q (.ref p) (upd H p (.lst (bs.map fun b => .ref b.1)))) := by
  intro pins s σ H xs us Q I r q
  obtain ⟨a, kvs, rfl, hd, hal, hne, q⟩ := q
  rw [Vals.ref1 r]
  obtain ⟨z, lo, vs, rel, o, es, ep, ho, hx, hdat, hes, hkeys, hnd⟩ := dt_rd I.hok hd
  obtain ⟨k1, k2⟩ := keyPl_of rel
  have lv : vs.length = kvs.length := by
    have := congrArg List.length k1
    simpa using this
  have les : es.size = vs.length := by
    have := congrArg List.length hes
    simpa using this
  have small : es.size ≤ sizeLine := by rw [les, lv]; exact z
  refine Calls.call_function_entry PyProof.Rows.kind_sorted PyProof.Rows.plain_sorted PyProof.Rows.entry_sorted (PyProof.Rows.args_sorted1 _) ?_
  unfold Builtin.«sorted»
  refine wpAny_bind (m := checkCount "sorted" 1 1 _) (wpAny_pure (wpAny_bind (kdu_collect (A := X.A.in1) (kdl_raw (es := es) (ep := ep) lo hx hdat) (I.ok.hd calm) ho small fun h1 tk acc old got => ?_)))
  have I1 : Inv X pins σ H { s with heap := h1, toks := tk } := I.kept old
  obtain ⟨bs, hbs⟩ : ∃ b : List (Addr × List Key), b = vs.map fun x => (x.2.1, x.1) := ⟨_, rfl⟩
  rw [← hbs] at k1 k2
  have lb : bs.length = vs.length := by rw [hbs, List.length_map]
  have len2 : acc.toList.length = bs.length := by rw [Array.length_toList, got.1, les, lb]
  have ey : EachIs (fun (v : Value) (b : Addr × List Key) => v = .ref b.1 ∧ H b.1 = some (.tup (b.2.map kV))) acc.toList bs := by
    have aux : ∀ (us : List Value) (cs : List (Addr × List Key)), us.length = cs.length → (∀ (i : Nat) u c, us[i]? = some u → cs[i]? = some c → u = .ref c.1 ∧ H c.1 = some (.tup (c.2.map kV))) → EachIs (fun (v : Value) (b : Addr × List Key) => v = .ref b.1 ∧ H b.1 = some (.tup (b.2.map kV))) us cs := by
      intro us
      induction us with
      | nil =>
        intro cs e _
        obtain rfl : cs = [] := List.eq_nil_of_length_eq_zero e.symm
        exact .nil
      | cons u us ih =>
        intro cs e h
        cases cs with
        | nil => cases e
        | cons c cs => exact .cons (h 0 u c rfl rfl) (ih cs (by simpa using e) fun i u c a b => h (i + 1) u c (by simpa using a) (by simpa using b))
    refine aux _ _ len2 fun i u c h1 h2 => ?_
    refine ⟨?_, k2 c (List.mem_of_getElem? h2)⟩
    obtain ⟨en, e1, e2⟩ := got.2 i u (by rw [← Array.getElem?_toList]; exact h1)
    rw [PySem.entry_at hes] at e1
    obtain ⟨x, e3, rfl⟩ := Option.map_eq_some_iff.mp e1
    rw [hbs, List.getElem?_map, e3] at h2
    cases h2
    rw [e2]; rfl
  have small2 : acc.toList.length ≤ sizeLine := by rw [Array.length_toList, got.1]; exact small
  refine wpAny_bind (wpAny_newList ?_ small2)
  have new : (h1.push (seqObj "list" acc.toList.toArray 0)).get? h1.objs.size = some (seqObj "list" acc.toList.toArray 0) := Heap.get?_push_size _ rfl
  show wpAny _ _ _ _ _ { s with heap := h1.push (seqObj "list" acc.toList.toArray 0), toks := tk }
  have hok2 : HOk X.prog X.w H (h1.push (seqObj "list" acc.toList.toArray 0)) := (I1.kept (t' := tk) fun b u e => Heap.get?_push_of_some _ e).hok
  have rdt : ∀ c : List Key, ∀ p : Addr, H p = some (.tup (c.map kV)) → Rep H (V.ref p) (.tup (c.map kD)) := fun c p e => .tup e (by rw [List.length_map, List.length_map]) fun i v d e1 e2 => by
    rw [List.getElem?_map] at e1 e2
    obtain ⟨y, hy, rfl⟩ := Option.map_eq_some_iff.mp e1
    rw [hy] at e2
    cases e2
    exact Rep.kD y
  have hkv : ∀ b ∈ bs, ∃ kv ∈ kvs, kv.1 = b.2 := fun b hb => by
    have : b.2 ∈ kvs.map (·.1) := k1 ▸ List.mem_map_of_mem (f := Prod.snd) hb
    obtain ⟨kv, h1, h2⟩ := List.mem_map.mp this
    exact ⟨kv, h1, h2⟩
  refine wpAny_bind (wpAny_holding (thn (Q := fun v s2 => ∃ out : List Value, v = .none ∧ EachIs (fun (v : Value) (b : Addr × List Key) => v = .ref b.1 ∧ H b.1 = some (.tup (b.2.map kV))) out (bs.mergeSort fun x y => leT x.2 y.2) ∧ s2 = { s with heap := PyProof.Rows.sortedHeap (h1.push (seqObj "list" acc.toList.toArray 0)) h1.objs.size acc.toList out.toArray, toks := tk }) ?_ fun v s2 ⟨out, e1, e2, e3⟩ => ?_))
  · refine list_sort_data (s := { s with heap := h1.push (seqObj "list" acc.toList.toArray 0), toks := tk }) (enc := fun b : Addr × List Key => dat (.tup (b.2.map kD))) (R := fun v b => v = .ref b.1 ∧ H b.1 = some (.tup (b.2.map kV))) new ey ?_ ?_ ?_ (by rw [← len2]; exact small2) (fun b _ => ?_) fun out _ eo => ⟨out, rfl, eo, rfl⟩
    · have flat : ∀ {us : List Value} {c : List Key}, Vals (c.map kV) us → ReadsAll (h1.push (seqObj "list" acc.toList.toArray 0)) us (datAll (c.map kD)) [] := by
        intro us c
        induction c generalizing us with
        | nil => intro r; cases r; exact .nil
        | cons y c ih =>
          intro r
          cases r with
          | cons r1 r2 =>
            refine .cons (as := []) (bs := []) ?_ (ih r2)
            cases y with
            | inl i => obtain ⟨t, rfl⟩ := r1; exact .int i t
            | inr x => obtain ⟨t, rfl⟩ := r1; exact .str x t
      have conv : ∀ {us : List Value} {cs : List (Addr × List Key)}, EachIs (fun (v : Value) (b : Addr × List Key) => v = .ref b.1 ∧ H b.1 = some (.tup (b.2.map kV))) us cs → EachIs (fun (u : Value) (b : Addr × List Key) => ∃ as, Reads (h1.push (seqObj "list" acc.toList.toArray 0)) u (dat (.tup (b.2.map kD))) as ∧ ¬ h1.objs.size ∈ as) us cs := by
        intro us cs e
        induction e with
        | nil => exact .nil
        | cons h _ ih =>
          refine .cons ?_ ih
          obtain ⟨_, its, rv, ob, hob, hc, n, hdt⟩ := hok2 _ _ h.2
          refine ⟨[], ?_, by simp⟩
          rw [h.1]
          exact .tuple hob hc hdt (by simpa using flat rv)
      exact conv ey
    · intro d hd d2 hd2
      obtain ⟨b, hb, rfl⟩ := List.mem_map.mp hd
      obtain ⟨c, hc, rfl⟩ := List.mem_map.mp hd2
      obtain ⟨kv, m, e⟩ := hkv b hb
      obtain ⟨kv2, m2, e2⟩ := hkv c hc
      have := hal kv m kv2 m2
      rw [e, e2] at this
      exact this
    · refine .inl fun d hd => ?_
      obtain ⟨b, hb, rfl⟩ := List.mem_map.mp hd
      obtain ⟨kv, m, e⟩ := hkv b hb
      have hn := hne kv m
      rw [e] at hn
      cases eb : b.2 with
      | nil => exact absurd eb hn
      | cons y ys => exact ⟨_, _, rfl⟩
    · have : (dat (.tup (b.2.map kD))).depth ≤ 1 := by
        have aux : ∀ l : List Key, PyData.depthAll (datAll (l.map kD)) = 0 := by
          intro l
          induction l with
          | nil => rfl
          | cons y l ih =>
            have : (dat (kD y)).depth = 0 := by cases y <;> rfl
            show max (dat (kD y)).depth (PyData.depthAll (datAll (l.map kD))) = 0
            rw [this, ih]; rfl
        show (PyData.depthAll (datAll (b.2.map kD))) + 1 ≤ 1
        rw [aux]; exact Nat.le_refl _
      show X.A.units + 1 + 1 + _ < cLine
      omega
  · subst e1; subst e3
    obtain ⟨c, hc⟩ := PyProof.Rows.sortedHeap_at (vs := acc.toList) (out := out.toArray) new
    obtain ⟨cs, hcs⟩ : ∃ c, c = bs.mergeSort fun x y => leT x.2 y.2 := ⟨_, rfl⟩
    rw [← hcs] at e2
    have vals : ∀ {us : List Value} {zs : List (Addr × List Key)}, EachIs (fun (v : Value) (b : Addr × List Key) => v = .ref b.1 ∧ H b.1 = some (.tup (b.2.map kV))) us zs → Vals (zs.map fun b => V.ref b.1) us := by
      intro us zs e
      induction e with
      | nil => exact .nil
      | cons h _ ih => exact .cons (by rw [h.1]; rfl) ih
    have lcs : cs.length = bs.length := by rw [hcs, List.length_mergeSort]
    have fit : (cs.map fun b => V.ref b.1).length ≤ sizeLine := by
      rw [List.length_map, lcs, lb, lv]; exact z
    refine wpAny_pure ⟨_, rfl, .ref h1.objs.size, upd H h1.objs.size (.lst (cs.map fun b => V.ref b.1)), I1.laid (t' := tk) (fun b u e => ?_) (Nat.le_refl _) ⟨fit, out, c, vals e2, by simpa using hc⟩, rfl, q _ cs (I1.hok.fresh (Nat.le_refl _)) (fun b hb => ?_) ?_⟩
    · have lb : b < h1.objs.size := Heap.lt_size e
      rw [PyProof.Rows.sortedHeap_old (Nat.ne_of_lt lb) (by rw [size_push']; exact Nat.lt_succ_of_lt lb)]
      exact Heap.get?_push_of_some _ e
    · rw [hcs] at hb
      exact k2 b ((List.mergeSort_perm _ _).mem_iff.mp hb)
    · rw [hcs, ← k1]
      exact List.map_mergeSort (r := fun x y : Addr × List Key => leT x.2 y.2) (s := leT) (f := Prod.snd) (l := bs) fun a _ b _ => rfl
end
/-- how tuple keys are told as data -/
class KeyTFor {α : Type} (g : α → List Key) (fk : outParam (α → D)) : Prop where
  e : ∀ a, fk a = .tup ((g a).map kD)
section
variable {X : Cx} {F : Fr} {sl : List (Option D)} {M R : Mem} {Q : D → DL.Env → Prop}
/-- more tuples are seen -/
theorem Holds.seeTups {F : Fr} {G : Hp} {Γ : DL.Env} {σ : L2.St} {H : Hp} : ∀ (bs : List (Addr × List Key)), Holds F G Γ σ H → (∀ b ∈ bs, H b.1 = some (.tup (b.2.map kV))) → ∃ G2, Same G G2 ∧ Holds F G2 Γ σ H ∧ ∀ b ∈ bs, G2 b.1 = some (.tup (b.2.map kV))
  | [], h, _ => ⟨G, Same.refl G, h, fun _ z => by cases z⟩
  | b :: bs, h, e => by
    obtain ⟨G1, s1, h1, a1⟩ := Holds.seeTups bs h fun c hc => e c (List.mem_cons_of_mem _ hc)
    obtain ⟨G2, s2, h2, a2⟩ := h1.seeTup (e b List.mem_cons_self)
    refine ⟨G2, s1.trans s2, h2, fun c hc => ?_⟩
    rcases List.mem_cons.mp hc with rfl | hc
    · exact a2
    · exact s2 _ _ (a1 c hc)
theorem wc_sortedAsT {α β : Type} {f : β → D} {es : List (α × β)} {lt : α → α → Bool} {n : Nat} {fk : α → D} {g : α → List Key} {d : D} [sd : SeeDT M R d (asK g f es)] [kf : KeyTFor g fk] [hf : DOrd fk lt n] (hX : Std X) (hP : ∀ e ∈ es, g e.1 ≠ [])
    (q : ∀ p, Q (.ref p) ⟨sl, (p, .lst ((srt lt (es.map (·.1))).map fk)) :: M, R⟩) : WC X F (.builtin "sorted") [d] ⟨sl, M, R⟩ Q := wc_of (call_sortedDT hX.calm hX.hu) fun G σ H vs hh rr K hK => by
  obtain ⟨v, rfl, r⟩ := rr.one
  obtain ⟨p, kvs, rfl, hd, e1, e2⟩ := hh.seeDT r sd.see
  have ek : kvs.map (·.1) = (es.map (·.1)).map g := by
    rw [e1]; unfold asK; rw [List.map_map, List.map_map]; rfl
  have mem : ∀ j ∈ kvs, ∃ e ∈ es, g e.1 = j.1 := fun j hj => by
    have : j.1 ∈ (es.map (·.1)).map g := ek ▸ List.mem_map_of_mem (f := Prod.fst) hj
    obtain ⟨a, ha, e⟩ := List.mem_map.mp this
    obtain ⟨x, hx, rfl⟩ := List.mem_map.mp ha
    exact ⟨x, hx, e⟩
  refine ⟨p, kvs, rfl, hd, fun j hj k hk => ?_, fun j hj => ?_, fun a bs ha hb hs => ?_⟩
  · obtain ⟨x, _, ex⟩ := mem j hj
    obtain ⟨y, _, ey⟩ := mem k hk
    rw [← ex, ← ey, ← kf.e, ← kf.e]
    exact hf.al _ _
  · obtain ⟨x, hx, ex⟩ := mem j hj
    rw [← ex]; exact hP x hx
  · obtain ⟨G2, s2, h2, a2⟩ := Holds.seeTups bs hh hb
    have es2 : (((es.map (·.1)).map g).mergeSort leT) = (srt lt (es.map (·.1))).map g := by
      refine (List.map_mergeSort (r := fun a b => !lt b a) (s := leT) (f := g) (l := es.map (·.1)) (fun a _ b _ => ?_)).symm
      show (!lt b a) = leD (.tup ((g a).map kD)) (.tup ((g b).map kD))
      rw [← kf.e, ← kf.e, hf.leD]
    rw [ek, es2] at hs
    refine hK _ _ G2 _ _ (q a) s2 (h2.newOwn ha (.lst ⟨?_, fun i u c e3 e4 => ?_⟩)) (.ref a)
    · have := congrArg List.length hs
      simp only [List.length_map] at this ⊢
      exact this
    · rw [List.getElem?_map] at e3 e4
      obtain ⟨b, hb1, rfl⟩ := Option.map_eq_some_iff.mp e3
      obtain ⟨x, hx1, rfl⟩ := Option.map_eq_some_iff.mp e4
      have e5 : (bs.map (·.2))[i]? = ((srt lt (es.map (·.1))).map g)[i]? := by rw [hs]
      rw [List.getElem?_map, List.getElem?_map, hb1, hx1] at e5
      have e6 : b.2 = g x := by simpa using e5
      rw [kf.e, ← e6]
      refine .tup (a2 b (List.mem_of_getElem? hb1)) (by rw [List.length_map, List.length_map]) fun i v d e7 e8 => ?_
      rw [List.getElem?_map] at e7 e8
      obtain ⟨y, hy, rfl⟩ := Option.map_eq_some_iff.mp e7
      rw [hy] at e8
      cases e8
      exact Rep.kD y
end
/-! ### lots: tuples of texts -/
abbrev encLot (l : List Str) : D := .tup (l.map D.str)
abbrev gLot (l : List Str) : List Key := l.map Sum.inr
theorem map_inr_inj : ∀ {a b : List Str}, (a.map Sum.inr : List Key) = b.map Sum.inr → a = b
  | [], [], _ => rfl
  | [], _ :: _, h => by cases h
  | _ :: _, [], h => by cases h
  | x :: a, y :: b, h => by
    obtain ⟨h1, h2⟩ := List.cons.inj h
    cases h1
    rw [map_inr_inj h2]
instance KeyInj.lot : KeyInj gLot := ⟨fun _ _ h => map_inr_inj h⟩
theorem lot_kD (l : List Str) : encLot l = .tup ((gLot l).map kD) := by
  unfold encLot gLot; rw [List.map_map]; rfl
instance KeyTFor.lot : KeyTFor gLot encLot := ⟨lot_kD⟩
instance KeyTIs.lot {l : List Str} : KeyTIs gLot (encLot l) l := ⟨lot_kD l⟩
instance DOrd.lot : DOrd encLot (ltL ltS) 1 := DOrd.tupl DOrd.str
instance EncAs.lot {l : List Str} : EncAs encLot (.tup (l.map D.str)) l := ⟨rfl⟩
end DL

/-! The D layer, part 29: data compared as wholes; list.insert. -/
namespace DL
open PySem PySem.Spec PyProof.Rows L2 PySem.W
theorem isd_plain : ∀ (n : Nat) (c : D), Isd n c → (dat c).plain = true ∧ alike (dat c) (dat c) = true ∧ (dat c).depth ≤ n := by
  have flat : ∀ {ds : List D} {n : Nat}, (∀ d ∈ ds, (dat d).plain = true ∧ alike (dat d) (dat d) = true ∧ (dat d).depth ≤ n) → PyData.plainAll (datAll ds) = true ∧ alikeAll (datAll ds) (datAll ds) = true ∧ PyData.depthAll (datAll ds) ≤ n := by
    intro ds n
    induction ds with
    | nil => exact fun _ => ⟨rfl, rfl, Nat.zero_le _⟩
    | cons d ds ih =>
      intro h
      obtain ⟨a, b, c⟩ := h d List.mem_cons_self
      obtain ⟨a', b', c'⟩ := ih fun x hx => h x (List.mem_cons_of_mem _ hx)
      refine ⟨?_, ?_, ?_⟩
      · simp only [datAll, PyData.plainAll, a, a', Bool.and_self]
      · simp only [datAll, alikeAll, b, b', Bool.and_self]
      · simp only [datAll, PyData.depthAll]; omega
  intro n
  induction n with
  | zero =>
    intro c h
    cases c <;> first | exact h.elim | exact ⟨by simp [dat, PyData.plain], by simp [dat, alike], Nat.zero_le _⟩
  | succ n ih =>
    intro c h
    cases c with
    | tup ds =>
      obtain ⟨_, hd⟩ := h
      obtain ⟨a, b, c⟩ := flat fun d hx => ih d (hd d hx)
      refine ⟨by simpa [dat, PyData.plain] using a, by simpa [dat, alike] using b, ?_⟩
      simp only [dat, PyData.depth]; omega
    | lst ds =>
      obtain ⟨_, hd⟩ := h
      obtain ⟨a, b, c⟩ := flat fun d hx => ih d (hd d hx)
      refine ⟨by simpa [dat, PyData.plain] using a, by simpa [dat, alike] using b, ?_⟩
      simp only [dat, PyData.depth]; omega
    | non => exact ⟨by simp [dat, PyData.plain], by simp [dat, alike], Nat.zero_le _⟩
    | int _ => exact ⟨by simp [dat, PyData.plain], by simp [dat, alike], Nat.zero_le _⟩
    | str _ => exact ⟨by simp [dat, PyData.plain], by simp [dat, alike], Nat.zero_le _⟩
    | bl _ => exact h.elim
    | ref _ => exact h.elim
    | ty _ => exact h.elim
    | dK _ => exact h.elim
    | dT _ => exact h.elim
    | st _ => exact h.elim
    | ins _ _ => exact h.elim
section
variable {X : Cx} {F : Fr} {Γ : DL.Env} {sl : List (Option D)} {M M' R : Mem} {Q : D → DL.Env → Prop}
theorem Holds.readsA {G : Hp} {σ : L2.St} {H : Hp} (hh : Holds F G Γ σ H) {P : Program} {w : World} {h : Heap} (hk : HOk P w H h) {d c : D} {v : V} (r : Rep G v d) (s : See Γ.M Γ.R d c) (ha : alike (dat c) (dat c) = true) : ∀ u, RelV v u → ∃ as, Reads h u (dat c) as := by
  intro u ru
  rcases hh.see r s with ⟨p, o, rfl, ho, hs⟩ | ⟨rfl, r⟩
  · cases ru
    have ob := rd_of hk ho
    cases hs with
    | lst hr =>
      rename_i vs ds
      obtain ⟨_, its, n, rv, hob⟩ := ob
      have z2 : alikeAll (datAll ds) (datAll ds) = true := by simpa [dat, alike] using ha
      obtain ⟨as, rs⟩ := readsAll_of (us := its) (ds := ds) (by rw [← rv.length, hr.1]) fun i u d a b => by
        obtain ⟨x, e1, e2⟩ := vals_get rv i u a
        refine (hr.2 i x d e1 b).reads hh.gh hk u e2 (alikeAll_mem z2 _ ?_)
        rw [datAll_map]
        exact List.mem_map_of_mem (List.mem_of_getElem? b)
      exact ⟨_, .list hob rfl rfl (by simpa using rs)⟩
    | dK _ _ => simp [dat, alike] at ha
    | dT _ _ => simp [dat, alike] at ha
    | ins _ _ => simp [dat, alike] at ha
  · exact r.reads hh.gh hk u ru ha
/-- == and != of the same data -/
theorem wo_eqW {n : Nat} {d1 d2 c1 c2 : D} [s1 : SeeA M R d1 c1] [s2 : SeeA M R d2 c2] (hX : Std X) (he : c1 = c2) (h : Isd n c1) (hn : n ≤ 60) (q : Q (.bl true) ⟨sl, M, R⟩) : WO X F (compareOp .Eq) d1 d2 ⟨sl, M, R⟩ Q := fun G σ H x y hh r1 r2 K hK pins s v u I rx ry => by
  obtain ⟨hp, ha, hd⟩ := isd_plain n c1 h
  subst he
  obtain ⟨as, ra⟩ := hh.readsA I.hok r1 s1.see ha v rx
  obtain ⟨bs, rb⟩ := hh.readsA I.hok r2 s2.see ha u ry
  have hu := hX.hu
  refine PySem.SeqAt.eq_plain ra rb hp hp (by omega) ?_
  rw [PySem.SeqAt.eqv_refl_plain _ hp]
  exact ⟨.bl true, H, I, rfl, hK.here hh q (.bl true)⟩
theorem wo_neW {n : Nat} {d1 d2 c1 c2 : D} [s1 : SeeA M R d1 c1] [s2 : SeeA M R d2 c2] (hX : Std X) (he : c1 = c2) (h : Isd n c1) (hn : n ≤ 60) (q : Q (.bl false) ⟨sl, M, R⟩) : WO X F (compareOp .NotEq) d1 d2 ⟨sl, M, R⟩ Q := fun G σ H x y hh r1 r2 K hK pins s v u I rx ry => by
  obtain ⟨hp, ha, hd⟩ := isd_plain n c1 h
  subst he
  obtain ⟨as, ra⟩ := hh.readsA I.hok r1 s1.see ha v rx
  obtain ⟨bs, rb⟩ := hh.readsA I.hok r2 s2.see ha u ry
  have hu := hX.hu
  refine PySem.SeqAt.ne_plain ra rb hp hp (by omega) ?_
  rw [PySem.SeqAt.eqv_refl_plain _ hp]
  exact ⟨.bl false, H, I, rfl, hK.here hh q (.bl false)⟩
theorem reps_ins {G : Hp} {vs : List V} {ds : List D} {v : V} {d : D} (r : Reps G vs ds) (rv : Rep G v d) (i : Nat) : Reps G (vs.take i ++ [v] ++ vs.drop i) (ds.take i ++ [d] ++ ds.drop i) := ((r.take i).append (Reps.cons rv Reps.nil)).append (r.drop i)
/-- xs.insert(i, y) -/
theorem wm_insert {α : Type} {f : α → D} {p : Addr} {xs : List α} {v : D} {y : α} {k : Nat} {i : Int} [h : At M p (.lst (xs.map f)) k] [en : EncAs f v y] [h2 : SetM M k (p, .lst ((xs.take i.toNat ++ [y] ++ xs.drop i.toNat).map f)) M'] (hl : xs.length < sizeLine) (h0 : 0 ≤ i) (h1 : i < 2 ^ 63) (q : Q .non ⟨sl, M', R⟩) : WM X F "list.insert" (.ref p) [.int i, v] ⟨sl, M, R⟩ Q := wm_of mt_insert fun G σ H x vs hh r1 r2 K hK => by
  obtain ⟨a, b, rfl, ra, rb⟩ := r2.two
  obtain ⟨_, _, o, ho, hs⟩ := hh.mem.at_ _ (List.mem_of_getElem? h.e)
  obtain ⟨us, rfl, hr⟩ := hs.lst_inv
  rw [r1.ref_inv, ra.int_inv]
  refine ⟨p, us, i, b, rfl, rfl, ho, by rw [hr.1, List.length_map]; exact hl, h0, h1, ?_⟩
  have hw := hh.write h.e (.lst (reps_ins hr rb i.toNat))
  have e : (xs.map f).take i.toNat ++ [v] ++ (xs.map f).drop i.toNat = (xs.take i.toNat ++ [y] ++ xs.drop i.toNat).map f := by
    rw [List.map_append, List.map_append, List.map_take, List.map_drop, en.e]; rfl
  rw [e, ← h2.e] at hw
  exact hK _ _ G _ _ q (Same.refl G) hw .non
end
end DL

/-! The D layer, part 30: y = {k: v for ..}. -/
namespace DL
open PySem PySem.Spec PyProof.Rows L2
theorem Nm.swapsD {X : Cx} {N : List Str} {sc : Scope} (nm : Nm X N sc) {kx vx : Expr} {gs : List Comprehension} {scope : Scope} {pos py : Pos} {y : Str} {line : Nat} (h : ((if sc.kind.isAnnotationScope then ScopeKind.function else sc.kind) == .function && sc.names.lookup y == some .local && py.line == pos.line && !(scope.names.any fun (n, k) => n == y && (k == .local || k == .cell))) = true) :
    swapsWith (.DictComp kx vx gs scope pos) (some (.Name y py)) line X.env = pure true := by
  have e : X.env.scope = sc := nm.sc
  subst e
  exact congrArg pure h
section
variable {X : Cx} {F : Fr} {Γ : DL.Env}
theorem ps_setDk {i : Nat} {y : Str} {py pos spos : Pos} {kx vx tg iter : Expr} {ifs : List Expr} {scope : Scope} {own : List (Str × Nat)} {wi : TI} {g : TG} {tt : TT} {tk tv : TE} (calm : X.calm = true) (nodup : X.N.Nodup) (hy : X.N[i]? = some y) (hyl : X.env.scope.names.lookup y = some .local)
    (hsw : swapsWith (.DictComp kx vx [⟨tg, iter, ifs, 0⟩] scope pos) (some (.Name y py)) spos.line X.env = pure true) (hi : PI X tg iter wi) (ok : BlkOk X.N X.env.scope scope own)
    (gs : ∀ (z : Shared) (Hz : Hp) (C : Addr) (cl : List (Str × Addr)) (fp : List Addr), PG (X.blk z Hz scope (compEnvC scope cl C X.env) fp) tg g) (ts : ∀ (z : Shared) (Hz : Hp) (C : Addr) (cl : List (Str × Addr)) (fp : List Addr), PTs (X.blk z Hz scope (compEnvC scope cl C X.env) fp) ifs tt)
    (ks : ∀ (z : Shared) (Hz : Hp) (C : Addr) (cl : List (Str × Addr)) (fp : List Addr), PE (X.blk z Hz scope (compEnvC scope cl C X.env) fp) kx tk) (vs : ∀ (z : Shared) (Hz : Hp) (C : Addr) (cl : List (Str × Addr)) (fp : List Addr), PE (X.blk z Hz scope (compEnvC scope cl C X.env) fp) vx tv)
    (plain : ∀ x, foldedSetIterable iter X.env x = pure x) : PS X (.Assign [.Name y py] (.DictComp kx vx [⟨tg, iter, ifs, 0⟩] scope pos) spos) (tAsg (tDc wi g tt tk tv (own.map (·.2))) (gName i)) := by
  refine ⟨fun pins s σ H D I asked => ?_⟩
  rw [exec_Assign_Name_used _ _ _ _ hsw]
  refine wpAny_bind (wpAny_standAt (wpAny_bind ?_))
  show wpAny _ X.A (do let _ ← comprehension (.DictComp kx vx [⟨tg, iter, ifs, 0⟩] scope pos) scope X.env (firstIterPos [⟨tg, iter, ifs, 0⟩] pos) newDict false (eval iter X.env) (some (assign (.Name y py) X.env))) _ _ s
  have asked2 : tDc wi g tt tk tv (own.map (·.2)) σ H (fun x H1 => gName i x σ H1 D.nx) := asked
  have core := dc_core (Qf := fun _ s' => SP X pins D .next s') (use := some (assign (.Name y py) X.env)) (pos := pos) (pos' := firstIterPos [⟨tg, iter, ifs, 0⟩] pos) calm nodup I hi ok gs ts ks vs plain asked2 (fun L C s' m H' I' q hn f => by
    show wpAny _ _ (assign (.Name y py) X.env (.ref L)) _ _ _
    have stored := store_ok2 (M := model X.prog X.w) (A := X.A) (E := X.xe) (v := V.ref L) (u := Value.ref L) (Q := fun _ s2 => ∃ m, s2.heap.Ns C m ∧ ∀ h'', Heap.SameBut C s2.heap h'' → SP X pins D .next { s2 with heap := h'' }) I' nodup hy (.inl hyl) rfl (fun s2 I2 back => ?_) (.inr hyl)
    · exact wpAny_assign_Name stored
    · obtain ⟨a, sb, ha⟩ := back
      obtain ⟨b0, b1, b2, b3, b4, b5⟩ := f
      have apart : C ≠ a := ha.elim (fun z => by rw [z]; exact b1) fun z e => b4 y a z e.symm
      exact ⟨m, hn.sameBut sb apart, fun h3 sb3 => ⟨_, H', I2.turned (t' := s2.toks) (fun b o hb e => (sb3.2 b hb).trans e) b0 b1 b3 b4 b5, q⟩⟩)
  exact wpAny_bind (thn core fun _ s' hq => wpAny_pure (wpAny_pure hq))
theorem ws_setDc' {i : Nat} {y : Str} {py pos spos : Pos} {tg kx vx iter : Expr} {ifs : List Expr} {scope : Scope} {own : List (Str × Nat)} {vs : List Nat} {O : Out} (hX : Std X) (hy : X.N[i]? = some y) (hyl : X.env.scope.names.lookup y = some .local)
    (hsw : swapsWith (.DictComp kx vx [⟨tg, iter, ifs, 0⟩] scope pos) (some (.Name y py)) spos.line X.env = pure true) (ok : BlkOk X.N X.env.scope scope own) (plain : ∀ x, foldedSetIterable iter X.env x = pure x) (hv : own.map (·.2) = vs)
    (h : WI X F tg iter Γ fun items stand Γ1 => DcAt X F tg kx vx ifs scope vs items stand Γ1 fun d Γ2 => Put i d Γ2 O.nx) :
    WS X F (.Assign [.Name y py] (.DictComp kx vx [⟨tg, iter, ifs, 0⟩] scope pos) spos) Γ O := fun G σ H hh E hE => by
  subst hv
  refine tUS_of (ps_setDk (g := tgB X tg scope) (tt := ttB X ifs scope) (tk := teB X kx scope) (tv := teB X vx scope) hX.calm hX.nd hy hyl hsw pi_U ok (fun z Hz C cl fp => pg_B z Hz C cl fp) (fun z Hz C cl fp => pts_B z Hz C cl fp) (fun z Hz C cl fp => pe_B z Hz C cl fp) (fun z Hz C cl fp => pe_B z Hz C cl fp) plain) ?_
  exact dc_sem (Q := fun d Γ1 => Put i d Γ1 O.nx) h hh fun d Γ1 G1 v H1 q s1 h1 r1 => hE.nx _ G1 _ H1 q s1 (h1.setSl r1 i)
end
end DL

/-! The D layer, part 31: a list or a tuple among what is only read, whichever it is, is walked. -/
namespace DL
open PySem PySem.Spec PyProof.Rows L2
/-- the side of ws_set where the name is seen from a block within: (nm.staysD (by decide +kernel)) -/
theorem Nm.staysD {X : Cx} {N : List Str} {sc : Scope} (nm : Nm X N sc) {kx vx : Expr} {gs : List Comprehension} {scope : Scope} {pos py : Pos} {y : Str} {line : Nat} (h : ((if sc.kind.isAnnotationScope then ScopeKind.function else sc.kind) == .function && sc.names.lookup y == some .local && py.line == pos.line && !(scope.names.any fun (n, k) => n == y && (k == .local || k == .cell))) = false) :
    swapsWith (.DictComp kx vx gs scope pos) (some (.Name y py)) line X.env = pure false := by
  have e : X.env.scope = sc := nm.sc
  subst e
  exact congrArg pure h
theorem Nm.staysL {X : Cx} {N : List Str} {sc : Scope} (nm : Nm X N sc) {elt : Expr} {gs : List Comprehension} {scope : Scope} {pos py : Pos} {y : Str} {line : Nat} (h : ((if sc.kind.isAnnotationScope then ScopeKind.function else sc.kind) == .function && sc.names.lookup y == some .local && py.line == pos.line && !(scope.names.any fun (n, k) => n == y && (k == .local || k == .cell))) = false) :
    swapsWith (.ListComp elt gs scope pos) (some (.Name y py)) line X.env = pure false := by
  have e : X.env.scope = sc := nm.sc
  subst e
  exact congrArg pure h
section
variable {X : Cx} {F : Fr} {sl : List (Option D)} {M R : Mem} {K : List D → (DL.Env → Prop) → DL.Env → Prop} {tg : Expr}
theorem wiv_seq {d : D} {ds : List D} [sd : SeeQ [] R d ds] (h : K ds (fun Γ' => Γ'.R = R) ⟨sl, M, R⟩) : WIV X F tg d ⟨sl, M, R⟩ K := fun G σ H x hh r Q hQ => by
  rcases sd.see with s | s
  · haveI : SeeL [] R d ds := ⟨s⟩
    refine wiv_list (K := fun items st Γ1 => items = ds ∧ Γ1 = ⟨sl, M, R⟩ ∧ ∀ Γ', st Γ' ↔ See Γ'.M Γ'.R d (.lst ds)) ⟨rfl, rfl, fun _ => Iff.rfl⟩ G σ H x hh r Q ?_
    rintro items st Γ1 G1 H1 J ⟨rfl, rfl, e⟩ sg h1 js
    refine hQ _ _ _ G1 H1 J h sg h1 fun Γ' G' σ' H' s2 h2 z => js Γ' G' σ' H' s2 h2 ((e Γ').mpr ?_)
    rw [z]; exact s.any
  · haveI : SeeT [] R d ds := ⟨s⟩
    refine wiv_tup (K := fun items st Γ1 => items = ds ∧ Γ1 = ⟨sl, M, R⟩ ∧ ∀ Γ', st Γ' ↔ See Γ'.M Γ'.R d (.tup ds)) ⟨rfl, rfl, fun _ => Iff.rfl⟩ G σ H x hh r Q ?_
    rintro items st Γ1 G1 H1 J ⟨rfl, rfl, e⟩ sg h1 js
    refine hQ _ _ _ G1 H1 J h sg h1 fun Γ' G' σ' H' s2 h2 z => js Γ' G' σ' H' s2 h2 ((e Γ').mpr ?_)
    rw [z]; exact s.any
end
end DL

namespace K50
open PySem PySem.Spec PyProof.Rows L2 DL
def topS (i : Nat) : Stmt := PySem.Challenge.pw_whatcomesfree_k50_reduced_cases.main.body.getD i (.Pass ⟨0, 0, 0, 0⟩)
abbrev s_make_lot : Stmt := topS 1
abbrev N_make_lot : List Str := ["names"]
theorem sc_make_lot : FnScope N_make_lot ["names"] (defScope s_make_lot) := ⟨rfl, rfl, rfl, by decide +kernel, rfl, by decide +kernel, by decide +kernel⟩
abbrev s_make_ledger : Stmt := topS 2
abbrev N_make_ledger : List Str := ["rows", "counts", "names", "count", "lot"]
theorem sc_make_ledger : FnScope N_make_ledger ["rows"] (defScope s_make_ledger) := ⟨rfl, rfl, rfl, by decide +kernel, rfl, by decide +kernel, by decide +kernel⟩
abbrev s_freed : Stmt := topS 3
abbrev N_freed : List Str := ["ledger", "lot", "inside", "found", "holders", "count", "name"]
theorem sc_freed : FnScope N_freed ["ledger", "lot"] (defScope s_freed) := ⟨rfl, rfl, rfl, by decide +kernel, rfl, by decide +kernel, by decide +kernel⟩
abbrev s_reduced : Stmt := topS 5
abbrev N_reduced : List Str := ["ledger", "candidates", "gone", "kept", "sure", "rows", "lot", "count", "rest", "name"]
theorem sc_reduced : FnScope N_reduced ["ledger", "candidates", "gone", "kept"] (defScope s_reduced) := ⟨rfl, rfl, rfl, by decide +kernel, rfl, by decide +kernel, by decide +kernel⟩
abbrev s_law_mix : Stmt := topS 7
abbrev N_law_mix : List Str := ["number"]
theorem sc_law_mix : FnScope N_law_mix ["number"] (defScope s_law_mix) := ⟨rfl, rfl, rfl, by decide +kernel, rfl, by decide +kernel, by decide +kernel⟩
abbrev s_law_start : Stmt := topS 8
abbrev N_law_start : List Str := ["script"]
theorem sc_law_start : FnScope N_law_start ["script"] (defScope s_law_start) := ⟨rfl, rfl, rfl, by decide +kernel, rfl, by decide +kernel, by decide +kernel⟩
abbrev s_law_next : Stmt := topS 9
abbrev N_law_next : List Str := ["state", "limit", "number", "drawn"]
theorem sc_law_next : FnScope N_law_next ["state", "limit"] (defScope s_law_next) := ⟨rfl, rfl, rfl, by decide +kernel, rfl, by decide +kernel, by decide +kernel⟩
abbrev s_law_is : Stmt := topS 10
abbrev N_law_is : List Str := ["told", "due", "key", "k"]
theorem sc_law_is : FnScope N_law_is ["told", "due"] (defScope s_law_is) := ⟨rfl, rfl, rfl, by decide +kernel, rfl, by decide +kernel, by decide +kernel⟩
abbrev s_law_names : Stmt := topS 11
abbrev N_law_names : List Str := ["state", "many", "letters", "at", "shift", "names", "k", "word", "j"]
theorem sc_law_names : FnScope N_law_names ["state", "many"] (defScope s_law_names) := ⟨rfl, rfl, rfl, by decide +kernel, rfl, by decide +kernel, by decide +kernel⟩
abbrev s_law_lot : Stmt := topS 12
abbrev N_law_lot : List Str := ["state", "names", "some", "lot", "name"]
theorem sc_law_lot : FnScope N_law_lot ["state", "names"] (defScope s_law_lot) := ⟨rfl, rfl, rfl, by decide +kernel, rfl, by decide +kernel, by decide +kernel⟩
abbrev s_law_ledger : Stmt := topS 13
abbrev N_law_ledger : List Str := ["state", "names", "others", "rows", "table", "k", "lot", "most"]
theorem sc_law_ledger : FnScope N_law_ledger ["state", "names", "others", "rows"] (defScope s_law_ledger) := ⟨rfl, rfl, rfl, by decide +kernel, rfl, by decide +kernel, by decide +kernel⟩
abbrev s_law_turned : Stmt := topS 14
abbrev N_law_turned : List Str := ["state", "names", "turned", "name"]
theorem sc_law_turned : FnScope N_law_turned ["state", "names"] (defScope s_law_turned) := ⟨rfl, rfl, rfl, by decide +kernel, rfl, by decide +kernel, by decide +kernel⟩
abbrev s_law_reduced : Stmt := topS 15
abbrev N_law_reduced : List Str := ["ledger", "candidates", "gone", "kept", "sure", "table", "lot", "count", "left", "name"]
theorem sc_law_reduced : FnScope N_law_reduced ["ledger", "candidates", "gone", "kept"] (defScope s_law_reduced) := ⟨rfl, rfl, rfl, by decide +kernel, rfl, by decide +kernel, by decide +kernel⟩
abbrev s_law_freed : Stmt := topS 16
abbrev N_law_freed : List Str := ["ledger", "names", "lot", "count", "name"]
theorem sc_law_freed : FnScope N_law_freed ["ledger", "names"] (defScope s_law_freed) := ⟨rfl, rfl, rfl, by decide +kernel, rfl, by decide +kernel, by decide +kernel⟩
abbrev s_law_lots : Stmt := topS 17
abbrev N_law_lots : List Str := ["state", "left", "rows", "lots", "name", "k", "lot"]
theorem sc_law_lots : FnScope N_law_lots ["state", "left", "rows"] (defScope s_law_lots) := ⟨rfl, rfl, rfl, by decide +kernel, rfl, by decide +kernel, by decide +kernel⟩
abbrev s_law : Stmt := topS 18
abbrev N_law : List Str := ["script", "state", "many", "words", "names", "others", "rows", "ledger", "gone", "kept", "left", "name", "way", "gone_more", "kept_more", "lots", "passed", "copies", "due", "inner", "told", "shown", "whole", "lot", "part"]
theorem sc_law : FnScope N_law ["script"] (defScope s_law) := ⟨rfl, rfl, rfl, by decide +kernel, rfl, by decide +kernel, by decide +kernel⟩
structure Tx (mg : Str → Option Value) : Prop where
  z_abs : mg "abs" = none
  z_all : mg "all" = none
  z_bool : mg "bool" = none
  z_dict : mg "dict" = none
  z_int : mg "int" = none
  z_isinstance : mg "isinstance" = none
  z_len : mg "len" = none
  z_list : mg "list" = none
  z_range : mg "range" = none
  z_set : mg "set" = none
  z_sorted : mg "sorted" = none
  z_str : mg "str" = none
  z_sum : mg "sum" = none
  z_tuple : mg "tuple" = none
theorem bo_abs : bootBuiltins "abs" = some (.builtin "abs") := by first | exact PySem.boot_abs | exact PyProof.Rows.boot_abs | decide +kernel
theorem bo_all : bootBuiltins "all" = some (.builtin "all") := by first | exact PySem.boot_all | exact PyProof.Rows.boot_all | decide +kernel
theorem bo_bool : bootBuiltins "bool" = some (.type "bool") := by first | exact PySem.boot_bool | exact PyProof.Rows.boot_bool | decide +kernel
theorem bo_dict : bootBuiltins "dict" = some (.type "dict") := by first | exact PySem.boot_dict | exact PyProof.Rows.boot_dict | decide +kernel
theorem bo_int : bootBuiltins "int" = some (.type "int") := by first | exact PySem.boot_int | exact PyProof.Rows.boot_int | decide +kernel
theorem bo_isinstance : bootBuiltins "isinstance" = some (.builtin "isinstance") := by first | exact PySem.boot_isinstance | exact PyProof.Rows.boot_isinstance | decide +kernel
theorem bo_len : bootBuiltins "len" = some (.builtin "len") := by first | exact PySem.boot_len | exact PyProof.Rows.boot_len | decide +kernel
theorem bo_list : bootBuiltins "list" = some (.type "list") := by first | exact PySem.boot_list | exact PyProof.Rows.boot_list | decide +kernel
theorem bo_range : bootBuiltins "range" = some (.type "range") := by first | exact PySem.boot_range | exact PyProof.Rows.boot_range | decide +kernel
theorem bo_set : bootBuiltins "set" = some (.type "set") := by first | exact PySem.boot_set | exact PyProof.Rows.boot_set | decide +kernel
theorem bo_sorted : bootBuiltins "sorted" = some (.builtin "sorted") := by first | exact PySem.boot_sorted | exact PyProof.Rows.boot_sorted | decide +kernel
theorem bo_str : bootBuiltins "str" = some (.type "str") := by first | exact PySem.boot_str | exact PyProof.Rows.boot_str | decide +kernel
theorem bo_sum : bootBuiltins "sum" = some (.builtin "sum") := by first | exact PySem.boot_sum | exact PyProof.Rows.boot_sum | decide +kernel
theorem bo_tuple : bootBuiltins "tuple" = some (.type "tuple") := by first | exact PySem.boot_tuple | exact PyProof.Rows.boot_tuple | decide +kernel
end K50


namespace K50
open PySem PySem.Spec PyProof.Rows L2 DL
local macro_rules | `(tactic| row_cond dcall) => `(tactic| first
  | ((with_reducible refine' we_callS (x := "make_lot") ?c ?x ?j ?g ?d ?e ?_); (case c => assumption); (case x => assumption); (case j => first | decide | exact Nat.le_refl _ | omega); (case g => assumption); (case d => decide); (case e => rfl))
  | ((with_reducible refine' we_call (x := "make_ledger") ?c ?x ?j ?g ?d ?e ?p ?_); (case c => assumption); (case x => assumption); (case j => first | decide | exact Nat.le_refl _ | omega); (case g => assumption); (case d => decide); (case e => rfl); (case p => rfl))
  | ((with_reducible refine' we_call (x := "freed") ?c ?x ?j ?g ?d ?e ?p ?_); (case c => assumption); (case x => assumption); (case j => first | decide | exact Nat.le_refl _ | omega); (case g => assumption); (case d => decide); (case e => rfl); (case p => rfl))
  | ((with_reducible refine' we_call (x := "reduced") ?c ?x ?j ?g ?d ?e ?p ?_); (case c => assumption); (case x => assumption); (case j => first | decide | exact Nat.le_refl _ | omega); (case g => assumption); (case d => decide); (case e => rfl); (case p => rfl))
  | ((with_reducible refine' we_call (x := "_law_mix") ?c ?x ?j ?g ?d ?e ?p ?_); (case c => assumption); (case x => assumption); (case j => first | decide | exact Nat.le_refl _ | omega); (case g => assumption); (case d => decide); (case e => rfl); (case p => rfl))
  | ((with_reducible refine' we_call (x := "_law_start") ?c ?x ?j ?g ?d ?e ?p ?_); (case c => assumption); (case x => assumption); (case j => first | decide | exact Nat.le_refl _ | omega); (case g => assumption); (case d => decide); (case e => rfl); (case p => rfl))
  | ((with_reducible refine' we_call1 (x := "_law_next") ?c ?x ?j ?g ?d ?e ?p ?_); (case c => assumption); (case x => assumption); (case j => first | decide | exact Nat.le_refl _ | omega); (case g => assumption); (case d => decide); (case e => rfl); (case p => rfl))
  | ((with_reducible refine' we_call (x := "_law_is") ?c ?x ?j ?g ?d ?e ?p ?_); (case c => assumption); (case x => assumption); (case j => first | decide | exact Nat.le_refl _ | omega); (case g => assumption); (case d => decide); (case e => rfl); (case p => rfl))
  | ((with_reducible refine' we_call1 (x := "_law_names") ?c ?x ?j ?g ?d ?e ?p ?_); (case c => assumption); (case x => assumption); (case j => first | decide | exact Nat.le_refl _ | omega); (case g => assumption); (case d => decide); (case e => rfl); (case p => rfl))
  | ((with_reducible refine' we_call1 (x := "_law_lot") ?c ?x ?j ?g ?d ?e ?p ?_); (case c => assumption); (case x => assumption); (case j => first | decide | exact Nat.le_refl _ | omega); (case g => assumption); (case d => decide); (case e => rfl); (case p => rfl))
  | ((with_reducible refine' we_call1 (x := "_law_ledger") ?c ?x ?j ?g ?d ?e ?p ?_); (case c => assumption); (case x => assumption); (case j => first | decide | exact Nat.le_refl _ | omega); (case g => assumption); (case d => decide); (case e => rfl); (case p => rfl))
  | ((with_reducible refine' we_call1 (x := "_law_turned") ?c ?x ?j ?g ?d ?e ?p ?_); (case c => assumption); (case x => assumption); (case j => first | decide | exact Nat.le_refl _ | omega); (case g => assumption); (case d => decide); (case e => rfl); (case p => rfl))
  | ((with_reducible refine' we_call (x := "_law_reduced") ?c ?x ?j ?g ?d ?e ?p ?_); (case c => assumption); (case x => assumption); (case j => first | decide | exact Nat.le_refl _ | omega); (case g => assumption); (case d => decide); (case e => rfl); (case p => rfl))
  | ((with_reducible refine' we_call (x := "_law_freed") ?c ?x ?j ?g ?d ?e ?p ?_); (case c => assumption); (case x => assumption); (case j => first | decide | exact Nat.le_refl _ | omega); (case g => assumption); (case d => decide); (case e => rfl); (case p => rfl))
  | ((with_reducible refine' we_call1 (x := "_law_lots") ?c ?x ?j ?g ?d ?e ?p ?_); (case c => assumption); (case x => assumption); (case j => first | decide | exact Nat.le_refl _ | omega); (case g => assumption); (case d => decide); (case e => rfl); (case p => rfl))
  | ((with_reducible refine' we_call (x := "law") ?c ?x ?j ?g ?d ?e ?p ?_); (case c => assumption); (case x => assumption); (case j => first | decide | exact Nat.le_refl _ | omega); (case g => assumption); (case d => decide); (case e => rfl); (case p => rfl)))
/-! the steps: one line a construct -/
local macro_rules | `(tactic| row_cond dlen) => `(tactic| (intro ds M R Q h; first | (obtain ⟨h1, _⟩ := h; subst h1; rfl) | (obtain ⟨_, h1, _⟩ := h; subst h1; rfl) | (obtain ⟨_, _, h1, _⟩ := h; subst h1; rfl) | (obtain ⟨_, _, _, h1, _⟩ := h; subst h1; rfl) | (obtain ⟨_, _, _, _, h1, _⟩ := h; subst h1; rfl) | (obtain ⟨_, _, _, _, _, h1, _⟩ := h; subst h1; rfl) | (obtain ⟨_, _, _, _, _, _, h1, _⟩ := h; subst h1; rfl) | (obtain ⟨_, _, _, _, _, _, _, h1, _⟩ := h; subst h1; rfl) | (obtain ⟨_, _, _, _, _, _, _, _, h1, _⟩ := h; subst h1; rfl) | (obtain ⟨_, _, _, _, _, _, _, _, _, h1, _⟩ := h; subst h1; rfl) | (obtain ⟨_, _, _, _, _, _, _, _, _, _, h1, _⟩ := h; subst h1; rfl) | (obtain ⟨_, _, _, _, _, _, _, _, _, _, _, h1, _⟩ := h; subst h1; rfl) | (obtain ⟨_, _, _, _, _, _, _, _, _, _, _, _, h1, _⟩ := h; subst h1; rfl)))
local macro_rules | `(tactic| row_cond dsz) => `(tactic| first | exact Nat.le_of_ble_eq_true rfl | assumption | (simp only [List.length_map, List.length_cons, List.length_append, List.length_nil, List.length_reverse, List.length_take, List.length_drop, PySem.sizeLine]; omega))
/- expressions -/
local macro_rules | `(tactic| row_cond dE) => `(tactic| first
  | ((with_reducible refine' we_name ?n ?e ?_); (case n => assumption); (case e => rfl))
  | (with_reducible refine we_int ?_)
  | (with_reducible refine we_bl ?_)
  | (with_reducible refine we_str ?_)
  | (with_reducible refine we_non ?_)
  | (with_reducible refine we_bin ?_)
  | ((with_reducible refine' we_cmp ?n ?_); (case n => rfl))
  | (with_reducible refine we_slice ?_)
  | (with_reducible refine we_rev ?_)
  | ((with_reducible refine' we_ix ?n ?_); (case n => exact fun _ _ => rfl))
  | (with_reducible refine we_tupV ?_)
  | (with_reducible refine we_lstV ?_)
  | ((with_reducible refine' we_blt ?b ?n ?m ?_); (case b => assumption); (case n => rfl); (case m => rfl))
  | ((with_reducible refine' we_typ ?b ?n ?m ?_); (case b => assumption); (case n => rfl); (case m => rfl))
  | ((with_reducible refine' we_tyName ?b ?_); (case b => assumption))
  | (with_reducible refine we_one ?_)
  | (with_reducible refine we_and ?_)
  | (with_reducible refine we_or ?_)
  | (with_reducible refine we_not ?_)
  | (with_reducible refine we_ifexp ?_)
  | ((with_reducible refine' we_un ?n ?_); (case n => exact fun z => nomatch z))
  | row_cond dcall
  | ((with_reducible refine we_bm (T := "list") PySem.F.plainAttrs_list PySem.F.slot_list_append PySem.F.type_list_append ?a ?b ?c ?d ?e ?_); (case a => rfl); (case b => rfl); (case c => rfl); (case d => rfl); (case e => rfl))
  | ((with_reducible refine we_bm0 (T := "list") PySem.F.plainAttrs_list PySem.F.slot_list_pop PySem.F.type_list_pop ?a ?b ?_); (case a => rfl); (case b => rfl))
  | ((with_reducible refine we_bm (T := "list") PySem.F.plainAttrs_list PySem.F.slot_list_extend PySem.F.type_list_extend ?a ?b ?c ?d ?e ?_); (case a => rfl); (case b => rfl); (case c => rfl); (case d => rfl); (case e => rfl)))
/- tests -/
local macro_rules | `(tactic| row_cond dT) => `(tactic| first
  | ((with_reducible refine' wt_cmp ?n ?_); (case n => rfl))
  | (with_reducible refine wt_not ?_)
  | (with_reducible refine wt_bool ?_)
  | (with_reducible refine ww_and1 ?_)
  | (with_reducible refine ww_or1 ?_)
  | (with_reducible refine ww_and ?_)
  | (with_reducible refine ww_or ?_)
  | ((with_reducible refine' wt_val ?n ?_); (case n => exact fun _ => rfl)))
/- statements -/
local macro_rules | `(tactic| row_cond dS) => `(tactic| first
  | (with_reducible refine wss_cons ?_)
  | (with_reducible refine wss_nil ?_)
  | ((with_reducible refine' ws_set ?a ?n ?h ?_); (case a => assumption); (case n => assumption); (case h => rfl))
  | ((with_reducible refine' ws_sub ?h ?_); (case h => rfl))
  | ((with_reducible refine' ws_asg ?a ?n ?h ?_); (case a => rfl); (case n => rfl); (case h => rfl))
  | (with_reducible refine ws_if ?_)
  | row_cond dret
  | ((with_reducible refine' ws_expr ?h ?_); (case h => rfl))
  | (with_reducible refine ws_pass ?_)
  | (with_reducible refine ws_break ?_)
  | (with_reducible refine ws_continue ?_)
  | (with_reducible refine ws_retN ?_))
local macro_rules | `(tactic| row_cond dSn) => `(tactic| first
  | (with_reducible refine wss_cons ?_)
  | (with_reducible refine wss_nil ?_)
  | ((with_reducible refine' ws_set ?a ?n ?h ?_); (case a => assumption); (case n => assumption); (case h => rfl))
  | ((with_reducible refine' ws_sub ?h ?_); (case h => rfl))
  | ((with_reducible refine' ws_asg ?a ?n ?h ?_); (case a => rfl); (case n => rfl); (case h => rfl))
  | row_cond dret
  | ((with_reducible refine' ws_expr ?h ?_); (case h => rfl))
  | (with_reducible refine ws_pass ?_)
  | (with_reducible refine ws_break ?_)
  | (with_reducible refine ws_continue ?_)
  | (with_reducible refine ws_retN ?_))
/- arguments, targets, values -/
local macro_rules | `(tactic| row_cond dV) => `(tactic| first
  | (with_reducible refine wa_nil ?_)
  | ((with_reducible refine' wa_cons ?n ?_); (case n => rfl))
  | (with_reducible refine wav_nil ?_)
  | ((with_reducible refine' wav_cons ?n ?_); (case n => rfl))
  | (with_reducible refine put_go ?_)
  | (with_reducible refine fz_lst ?_)
  | (with_reducible refine fz_tup ?_)
  | (with_reducible refine fz_id ?_)
  | (with_reducible refine own0_go ?_)
  | (with_reducible refine own1_go ?_)
  | (with_reducible refine app_go ?_)
  | (with_reducible refine mset_go ?_)
  | ((with_reducible refine' wg_name ?a ?n ?_); (case a => assumption); (case n => assumption))
  | ((with_reducible refine' wg_tup ?a ?n ?h ?_); (case a => assumption); (case n => rfl); (case h => rfl))
  | (with_reducible refine wgs_nil ?_)
  | ((with_reducible refine' wgs_cons ?n ?_); (case n => rfl))
  | (with_reducible refine wpt_none ?_)
  | (with_reducible refine wpt_some ?_)
  | ((with_reducible refine' wset_list ?n ?_); (case n => first | rfl | row_cond dix)))
/- what is walked -/
local macro_rules | `(tactic| row_cond dI) => `(tactic| first
  | ((with_reducible refine' wi_range1 ?a ?b ?c ?_); (case a => exact BltAt.gl (by assumption)); (case b => exact BltAt.mg (by assumption)); (case c => rfl))
  | ((with_reducible refine' wi_range2 ?a ?b ?c ?d ?_); (case a => exact BltAt.gl (by assumption)); (case b => exact BltAt.mg (by assumption)); (case c => rfl); (case d => rfl))
  | (with_reducible refine wi_val ?_)
  | (with_reducible refine wiv_list ?_)
  | (with_reducible refine wiv_tup ?_)
  | (with_reducible refine wiv_seq ?_)
  | ((with_reducible refine' wgc_name ?a ?n ?h ?_); (case a => assumption); (case n => assumption); (case h => decide))
  | ((with_reducible refine' wgc_tup ?a ?n ?h ?_); (case a => assumption); (case n => rfl); (case h => rfl))
  | (with_reducible refine wgcs_nil ?_)
  | ((with_reducible refine' wgcs_cons ?n ?_); (case n => rfl))
  | (with_reducible refine wts_nil ?_)
  | (with_reducible refine wts_one ?_))
/- operations by values -/
local macro_rules | `(tactic| row_cond dO) => `(tactic| first
  | (with_reducible refine wo_add ?_)
  | (with_reducible refine wo_sub ?_)
  | ((with_reducible refine' wo_mulS ?n ?_); (case n => first | exact .inr ⟨by decide, by decide⟩ | exact .inl ⟨by decide, by decide⟩ | exact .inr ⟨by omega, by omega⟩ | exact .inl ⟨by omega, by omega⟩))
  | ((with_reducible refine' wo_fdiv ?n ?m ?_); (case n => first | decide | omega); (case m => first | decide | row_cond dlog))
  | ((with_reducible refine' wo_mod ?n ?_); (case n => first | decide | omega))
  | (with_reducible refine wo_powL ?_)
  | ((with_reducible refine' wo_pow ?n ?_); (case n => exact ⟨by decide, by decide, by decide⟩))
  | (with_reducible refine wo_xor ?_)
  | (with_reducible refine wo_lt ?_)
  | (with_reducible refine wo_le ?_)
  | (with_reducible refine wo_gt ?_)
  | (with_reducible refine wo_ge ?_)
  | (with_reducible refine wo_eqI ?_)
  | (with_reducible refine wo_neI ?_)
  | (with_reducible refine wo_eqS ?_)
  | (with_reducible refine wo_neS ?_)
  | (with_reducible refine wo_isN ?_)
  | (with_reducible refine wo_isnotN ?_)
  | (with_reducible refine wu_neg ?_)
  | (with_reducible refine wc_int ?_)
  | (with_reducible refine wc_intB ?_)
  | (with_reducible refine wc_abs ?_)
  | ((with_reducible refine' wc_max2 ?a ?_); (case a => assumption))
  | ((with_reducible refine' wc_min2 ?a ?_); (case a => assumption))
  | (with_reducible refine wc_list ?_)
  | (with_reducible refine wc_tuple ?_)
  | ((with_reducible refine' wc_lenS ?a ?_); (case a => row_cond dsz))
  | (with_reducible refine wc_lenM ?_)
  | (with_reducible refine wc_len ?_)
  | (with_reducible refine wc_isK ?_)
  | ((with_reducible refine' wc_allM ?a ?_); (case a => assumption))
  | ((with_reducible refine' wc_anyM ?a ?_); (case a => assumption))
  | ((with_reducible refine' wc_sum ?a ?_); (case a => assumption))
  | ((with_reducible refine' wx_list ?n ?_); (case n => row_cond dat))
  | ((with_reducible refine' wx_map ?a ?b ?_); (case a => omega); (case b => omega))
  | ((with_reducible refine' wx_seq ?a ?b ?_); (case a => omega); (case b => omega))
  | ((with_reducible refine' wx_tup ?n ?_); (case n => row_cond dat))
  | (with_reducible refine wsl_listM ?_)
  | (with_reducible refine wsl_list ?_)
  | (with_reducible refine wrev_goM ?_)
  | (with_reducible refine wrev_go ?_)
  | ((with_reducible refine' wo_catM ?n ?_); (case n => row_cond dsz))
  | ((with_reducible refine' wo_cat ?n ?_); (case n => row_cond dsz))
  | ((with_reducible refine' wm_append ?n ?_); (case n => row_cond dsz)))
local macro_rules | `(tactic| row_cond dat) => `(tactic| rfl)
local macro_rules | `(tactic| row_cond dix) => `(tactic| rfl)
local macro_rules | `(tactic| row_cond dlog) => `(tactic| first | decide | exact log_small (by omega) (by omega))
/- what stands between -/
local macro_rules | `(tactic| row_cond dQ) => `(tactic| first
  | (with_reducible refine ⟨_, rfl, ?_⟩)
  | (with_reducible refine br_true ?_)
  | (with_reducible refine br_false ?_)
  | (with_reducible refine rb_true ?_)
  | (with_reducible refine rb_false ?_)
  | ((with_reducible refine' br_dec ?_ ?_) <;> intro _)
  | ((with_reducible refine' br_ndec ?_ ?_) <;> intro _)
  | ((with_reducible refine' rb_dec ?_ ?_) <;> intro _)
  | ((with_reducible refine' rb_ndec ?_ ?_) <;> intro _)
  | (refine br_is rfl ?_)
  | (refine br_isnot rfl ?_)
  | (refine rb_is rfl ?_)
  | (refine rb_isnot rfl ?_)
  | ((with_reducible refine' ⟨⟨?a, ?b⟩, ?_⟩); (case a => omega); (case b => omega))
  | ((with_reducible refine' ⟨⟨?a, ?b, ?c, ?d⟩, ?_⟩); (case a => omega); (case b => omega); (case c => omega); (case d => omega))
  | (with_reducible refine app_go ?_)
  | (with_reducible refine ⟨tym_list, ?_⟩)
  | (with_reducible refine ⟨tym_str, ?_⟩)
  | ((with_reducible refine ⟨?n, ?_⟩); (case n => (show _ ≤ PySem.sizeLine); row_cond dsz))
  | (with_reducible intro _))
local macro_rules | `(tactic| row_cond dstart) => `(tactic| simp only [startD, List.map_cons, List.map_nil, List.length_cons, List.length_nil, List.cons_append, List.nil_append, Nat.zero_add, Nat.reduceAdd, Nat.reduceSub, List.replicate_succ, List.replicate_zero])
local macro_rules | `(tactic| row_cond d) => `(tactic| first | row_cond dE | row_cond dV | row_cond dO | row_cond dT | row_cond dS | row_cond dI | row_cond dmore | row_cond dspec | row_cond dQ)
local macro_rules | `(tactic| row_cond dn) => `(tactic| first | row_cond dE | row_cond dV | row_cond dO | row_cond dT | row_cond dSn | row_cond dI | row_cond dmore | row_cond dspec | row_cond dQ)
local macro_rules | `(tactic| row_cond gon) => `(tactic| repeat' (row_cond dn))
local macro_rules | `(tactic| row_cond go) => `(tactic| repeat' (row_cond d))
/- the later parts of the layer -/
local macro_rules | `(tactic| row_cond dE) => `(tactic| first
  | ((with_reducible refine' we_sortedSet ?a ?b ?c ?d ?e ?_); (case a => assumption); (case b => assumption); (case c => assumption); (case d => rfl); (case e => rfl))
  | ((with_reducible refine' we_get2 ?a ?b ?_); (case a => assumption); (case b => exact ⟨rfl, rfl, rfl, rfl⟩))
  | ((with_reducible refine' we_get1 ?a ?b ?_); (case a => assumption); (case b => exact ⟨rfl, rfl, rfl, rfl⟩))
  | ((with_reducible refine' we_pop1 ?b ?_); (case b => exact ⟨rfl, rfl, rfl, rfl⟩)))
local macro_rules | `(tactic| row_cond dO) => `(tactic| first
  | ((with_reducible refine' wc_sorted ?a ?b ?c ?_); (case a => assumption); (case b => decide); (case c => first | exact fun _ _ => trivial | assumption))
  | ((with_reducible refine' wsorted_go ?a ?_); (case a => first | assumption | omega))
  | ((with_reducible refine' wo_inD ?a ?b ?_); (case a => assumption); (case b => decide))
  | ((with_reducible refine' wo_ninD ?a ?b ?_); (case a => assumption); (case b => decide))
  | (with_reducible refine getD_K ?_)
  | (with_reducible refine getD_T ?_)
  | ((with_reducible refine' wsl_txt ?a ?_); (case a => row_cond dsz))
  | ((with_reducible refine' wx_strN ?a ?b ?c ?_); (case a => row_cond dsz); (case b => omega); (case c => first | omega | (simp only [PySem.Str.length]; omega)))
  | (with_reducible refine ⟨isDD_K, ?_⟩)
  | (with_reducible refine ⟨isDD_T, ?_⟩))
local macro_rules | `(tactic| row_cond dO) => `(tactic| first
  | ((with_reducible refine' wm_appendM ?n ?_); (case n => row_cond dsz)))
local macro_rules | `(tactic| row_cond dE) => `(tactic| ((with_reducible refine' we_con ?c ?_); (case c => assumption)))
local macro_rules | `(tactic| row_cond dV) => `(tactic| first
  | (with_reducible refine wk_nil ?_)
  | (with_reducible refine wk_cons ?_)
  | (with_reducible refine ⟨rfl, rfl, ?_⟩))
local macro_rules | `(tactic| row_cond dI) => `(tactic| ((with_reducible refine' wi_range3 ?a ?b ?c ?d ?_); (case a => exact BltAt.gl (by assumption)); (case b => exact BltAt.mg (by assumption)); (case c => rfl); (case d => rfl)))
local macro_rules | `(tactic| row_cond dO) => `(tactic| first
  | ((with_reducible refine' wc_lenS ?a ?_); (case a => row_cond dsz)))
local macro_rules | `(tactic| row_cond dO) => `(tactic| first
  | ((with_reducible refine' wo_addS ?a ?_); (case a => row_cond dsz)))
local macro_rules | `(tactic| row_cond dO) => `(tactic| first
  | ((with_reducible refine' wo_addS2 ?a ?_); (case a => first | decide | omega))
  | ((with_reducible refine' wsl_txt2 ?a ?_); (case a => first | decide | omega))
  | ((with_reducible refine' wc_lenS2 ?a ?_); (case a => first | decide | omega)))
local macro_rules | `(tactic| row_cond dE) => `(tactic| first
  | ((with_reducible refine we_bm (T := "str") PySem.F.plainAttrs_str PySem.F.slot_str_index PySem.F.type_str_index ?a ?b ?c ?d ?e ?_); (case a => rfl); (case b => rfl); (case c => rfl); (case d => rfl); (case e => rfl))
  | ((with_reducible refine we_bm (T := "str") PySem.F.plainAttrs_str PySem.F.slot_str_join PySem.F.type_str_join ?a ?b ?c ?d ?e ?_); (case a => rfl); (case b => rfl); (case c => rfl); (case d => rfl); (case e => rfl))
  | ((with_reducible refine we_bm (T := "str") PySem.F.plainAttrs_str PySem.F.slot_str_startswith PySem.F.type_str_startswith ?a ?b ?c ?d ?e ?_); (case a => rfl); (case b => rfl); (case c => rfl); (case d => rfl); (case e => rfl)))
local macro_rules | `(tactic| row_cond dO) => `(tactic| first
  | (with_reducible refine wm_starts ?_))
local macro_rules | `(tactic| row_cond dret) => `(tactic| (with_reducible refine ws_ret ?_))
local macro_rules | `(tactic| row_cond dO) => `(tactic| first
  | ((with_reducible refine' wx_asK ?a ?b ?_); (case a => assumption); (case b => assumption))
  | ((with_reducible refine' wo_inAsK ?a ?_); (case a => assumption))
  | ((with_reducible refine' wo_ninAsK ?a ?_); (case a => assumption))
  | ((with_reducible refine' wset_asK ?a ?b ?_); (case a => assumption); (case b => row_cond dsz))
  | (with_reducible refine getD_asK ?_)
  | ((with_reducible refine' popD_asK ?b ?_); (case b => assumption))
  | ((with_reducible refine' wx_asT ?a ?b ?_); (case a => assumption); (case b => assumption))
  | ((with_reducible refine' wo_inAsT ?a ?_); (case a => assumption))
  | ((with_reducible refine' wo_ninAsT ?a ?_); (case a => assumption))
  | ((with_reducible refine' wset_asT ?a ?b ?_); (case a => assumption); (case b => row_cond dsz))
  | (with_reducible refine getD_asT ?_)
  | ((with_reducible refine' wc_sortedAs ?a ?_); (case a => assumption)))
local macro_rules | `(tactic| row_cond dO) => `(tactic| first
  | (with_reducible refine wc_lenAsK ?_)
  | (with_reducible refine wc_lenAsT ?_))
local macro_rules | `(tactic| row_cond dI) => `(tactic| first
  | (with_reducible refine wiv_asK ?_))
local macro_rules | `(tactic| row_cond dV) => `(tactic| (with_reducible refine star_go ?_))
local macro_rules | `(tactic| row_cond dO) => `(tactic| first
  | ((with_reducible refine' wc_sortedAsT ?a ?b ?_); (case a => assumption); (case b => assumption))
  | ((with_reducible refine' wm_insert ?a ?b ?c ?_); (case a => row_cond dsz); (case b => omega); (case c => omega)))
local macro_rules | `(tactic| row_cond dE) => `(tactic| first
  | ((with_reducible refine we_bm (T := "list") PySem.F.plainAttrs_list PySem.F.slot_list_insert PySem.F.type_list_insert ?a ?b ?c ?d ?e ?_); (case a => rfl); (case b => rfl); (case c => rfl); (case d => rfl); (case e => rfl)))

/-! ### the draws -/
theorem xor_lt {a b : Int} (ha : 0 ≤ a) (hb : 0 ≤ b) (h1 : a < 2 ^ 64) (h2 : b < 2 ^ 64) : 0 ≤ Builtin.bitXor a b ∧ Builtin.bitXor a b < 2 ^ 64 := by
  refine ⟨Bits.bitXor_nonneg ha hb, ?_⟩
  rw [Bits.bitXor_pp ha hb]
  have := Nat.xor_lt_two_pow (x := a.toNat) (y := b.toNat) (n := 64) (by omega) (by omega)
  omega
def sp_law_mix : SpD := fun ds M _ Q => ∃ n, ds = [.int n] ∧ M = [] ∧ ∀ r : Int, 0 ≤ r → r < 2 ^ 64 → Q (.int r) []
theorem cal_law_mix {P : Program} {w : World} {K : PySem.W.Frag} {mg : Str → Option Value} {base : Heap} (T : Tx mg) (Da : DefAt K mg "_law_mix" s_law_mix)  : Cal P w K mg base (1) "_law_mix" sp_law_mix := by
  refine calD (k := 0) Da sc_law_mix (fun f fd Fu => Fu.binds fun _ _ _ _ _ _ us hl => match us, hl with | [_], _ => rfl) (by row_cond dlen) (fun X F hX nm ds M R Q hS => ?_)
  have hst := hX.std
  have n_number : NameAt X 0 "number" := nm.name rfl (.inl rfl) (by decide) (by decide)
  have s_number : StoreAt X 0 "number" := nm.store rfl (.inl rfl)
  have b_int : BltAt X "int" (.type "int") := nm.blt hX rfl T.z_int bo_int (by decide) (by decide)
  obtain ⟨n, rfl, rfl, hq⟩ := hS
  row_cond dstart
  refine wss_cons ?_
  row_cond go
  refine rt0 ?_
  have h1 := Int.emod_nonneg (n * 6364136223846793005 + 1442695040888963407) (show (18446744073709551616 : Int) ≠ 0 by decide)
  have h2 := Int.emod_lt_of_pos (n * 6364136223846793005 + 1442695040888963407) (show (0 : Int) < 18446744073709551616 by decide)
  generalize (n * 6364136223846793005 + 1442695040888963407) % 18446744073709551616 = a at *
  have h3 := Int.emod_nonneg (Builtin.bitXor a (a / 536870912) * 3935559000370003845 + 2691343689449507681) (show (18446744073709551616 : Int) ≠ 0 by decide)
  have h4 := Int.emod_lt_of_pos (Builtin.bitXor a (a / 536870912) * 3935559000370003845 + 2691343689449507681) (show (0 : Int) < 18446744073709551616 by decide)
  generalize (Builtin.bitXor a (a / 536870912) * 3935559000370003845 + 2691343689449507681) % 18446744073709551616 = b at *
  have h5 := xor_lt (a := b) (b := b / 4294967296) h3 (by omega) (by omega) (by omega)
  exact hq _ h5.1 h5.2
/-- a state of the draws -/
def DrawSt (d : D) : Prop := ∃ (ns : List Int) (i n c : Int), d = .lst [.lst (ns.map D.int), .int i, .int n, .int c] ∧ ns.length ≤ 63 ∧ 0 ≤ i ∧ 0 ≤ n
def sp_law_next : SpD := fun ds M _ Q => ∃ (p : Addr) (st : D) (lim : Int), ds = [.ref p, .int lim] ∧ M = [(p, st)] ∧ DrawSt st ∧ 0 < lim ∧ lim < 2 ^ 200 ∧ ∀ (r : Int) (st' : D), 0 ≤ r → r < lim → DrawSt st' → Q (.int r) [(p, st')]
theorem sp_law_mix_go {n : Int} {R : Mem} {Q : D → Mem → Prop} (h : ∀ r : Int, 0 ≤ r → r < 2 ^ 64 → Q (.int r) []) : sp_law_mix [.int n] [] R Q := ⟨n, rfl, rfl, h⟩
theorem sp_law_next_go {p : Addr} {st : D} {lim : Int} {R : Mem} {Q : D → Mem → Prop} (hs : DrawSt st) (h0 : 0 < lim) (h1 : lim < 2 ^ 200) (h : ∀ (r : Int) (st' : D), 0 ≤ r → r < lim → DrawSt st' → Q (.int r) [(p, st')]) : sp_law_next [.ref p, .int lim] [(p, st)] R Q :=
  ⟨p, st, lim, rfl, rfl, hs, h0, h1, h⟩
local macro_rules | `(tactic| row_cond dspec) => `(tactic| first
  | ((with_reducible refine' sp_law_next_go ?a ?b ?c ?_); (case a => assumption); (case b => first | decide | omega); (case c => first | decide | omega))
  | (with_reducible refine sp_law_mix_go ?_))
theorem cal_law_next {P : Program} {w : World} {K : PySem.W.Frag} {mg : Str → Option Value} {base : Heap} (T : Tx mg) (Da : DefAt K mg "_law_next" s_law_next) (c_law_mix : Cal P w K mg base 1 "_law_mix" sp_law_mix) : Cal P w K mg base (2) "_law_next" sp_law_next := by
  refine calD (k := 1) Da sc_law_next (fun f fd Fu => Fu.binds fun _ _ _ _ _ _ us hl => match us, hl with | [_, _], _ => rfl) (by row_cond dlen) (fun X F hX nm ds M R Q hS => ?_)
  have hst := hX.std
  have n_state : NameAt X 0 "state" := nm.name rfl (.inl rfl) (by decide) (by decide)
  have s_state : StoreAt X 0 "state" := nm.store rfl (.inl rfl)
  have n_limit : NameAt X 1 "limit" := nm.name rfl (.inl rfl) (by decide) (by decide)
  have s_limit : StoreAt X 1 "limit" := nm.store rfl (.inl rfl)
  have n_number : NameAt X 2 "number" := nm.name rfl (.inl rfl) (by decide) (by decide)
  have s_number : StoreAt X 2 "number" := nm.store rfl (.inl rfl)
  have n_drawn : NameAt X 3 "drawn" := nm.name rfl (.inl rfl) (by decide) (by decide)
  have s_drawn : StoreAt X 3 "drawn" := nm.store rfl (.inl rfl)
  have g_law_mix : Gl X "_law_mix" := nm.gl rfl
  have b_len : BltAt X "len" (.builtin "len") := nm.blt hX rfl T.z_len bo_len (by decide) (by decide)
  have b_abs : BltAt X "abs" (.builtin "abs") := nm.blt hX rfl T.z_abs bo_abs (by decide) (by decide)
  have b_int : BltAt X "int" (.type "int") := nm.blt hX rfl T.z_int bo_int (by decide) (by decide)
  obtain ⟨p, st, lim, rfl, rfl, ⟨ns, i, n, c, rfl, hl, hi, hn⟩, h0, h1, hq⟩ := hS
  row_cond dstart
  refine wss_cons ?_
  row_cond go
  · refine rt1 (k := 0) (hq _ _ (Int.emod_nonneg _ (by omega)) (Int.emod_lt_of_pos _ h0) ⟨ns, _, _, _, rfl, hl, by omega, Int.ediv_nonneg (by assumption) (by omega)⟩)
  · refine rt1 (k := 0) (hq _ _ (Int.emod_nonneg _ (by omega)) (Int.emod_lt_of_pos _ h0) ⟨ns, _, _, _, rfl, hl, by omega, Int.ediv_nonneg (by split <;> omega) (by omega)⟩)
  · refine rt1 (k := 0) (hq _ _ (Int.emod_nonneg _ (by omega)) (Int.emod_lt_of_pos _ h0) ⟨ns, _, _, _, rfl, hl, by omega, Int.ediv_nonneg (by assumption) (by omega)⟩)
  · refine rt1 (k := 0) (hq _ _ (Int.emod_nonneg _ (by omega)) (Int.emod_lt_of_pos _ h0) ⟨ns, _, _, _, rfl, hl, by omega, Int.ediv_nonneg (by assumption) (by omega)⟩)

end K50


namespace K50
open PySem PySem.Spec PyProof.Rows L2 DL
local macro_rules | `(tactic| row_cond dcall) => `(tactic| first
  | ((with_reducible refine' we_callS (x := "make_lot") ?c ?x ?j ?g ?d ?e ?_); (case c => assumption); (case x => assumption); (case j => first | decide | exact Nat.le_refl _ | omega); (case g => assumption); (case d => decide); (case e => rfl))
  | ((with_reducible refine' we_call (x := "make_ledger") ?c ?x ?j ?g ?d ?e ?p ?_); (case c => assumption); (case x => assumption); (case j => first | decide | exact Nat.le_refl _ | omega); (case g => assumption); (case d => decide); (case e => rfl); (case p => rfl))
  | ((with_reducible refine' we_call (x := "freed") ?c ?x ?j ?g ?d ?e ?p ?_); (case c => assumption); (case x => assumption); (case j => first | decide | exact Nat.le_refl _ | omega); (case g => assumption); (case d => decide); (case e => rfl); (case p => rfl))
  | ((with_reducible refine' we_call (x := "reduced") ?c ?x ?j ?g ?d ?e ?p ?_); (case c => assumption); (case x => assumption); (case j => first | decide | exact Nat.le_refl _ | omega); (case g => assumption); (case d => decide); (case e => rfl); (case p => rfl))
  | ((with_reducible refine' we_call (x := "_law_mix") ?c ?x ?j ?g ?d ?e ?p ?_); (case c => assumption); (case x => assumption); (case j => first | decide | exact Nat.le_refl _ | omega); (case g => assumption); (case d => decide); (case e => rfl); (case p => rfl))
  | ((with_reducible refine' we_call (x := "_law_start") ?c ?x ?j ?g ?d ?e ?p ?_); (case c => assumption); (case x => assumption); (case j => first | decide | exact Nat.le_refl _ | omega); (case g => assumption); (case d => decide); (case e => rfl); (case p => rfl))
  | ((with_reducible refine' we_call1 (x := "_law_next") ?c ?x ?j ?g ?d ?e ?p ?_); (case c => assumption); (case x => assumption); (case j => first | decide | exact Nat.le_refl _ | omega); (case g => assumption); (case d => decide); (case e => rfl); (case p => rfl))
  | ((with_reducible refine' we_call (x := "_law_is") ?c ?x ?j ?g ?d ?e ?p ?_); (case c => assumption); (case x => assumption); (case j => first | decide | exact Nat.le_refl _ | omega); (case g => assumption); (case d => decide); (case e => rfl); (case p => rfl))
  | ((with_reducible refine' we_call1 (x := "_law_names") ?c ?x ?j ?g ?d ?e ?p ?_); (case c => assumption); (case x => assumption); (case j => first | decide | exact Nat.le_refl _ | omega); (case g => assumption); (case d => decide); (case e => rfl); (case p => rfl))
  | ((with_reducible refine' we_call1 (x := "_law_lot") ?c ?x ?j ?g ?d ?e ?p ?_); (case c => assumption); (case x => assumption); (case j => first | decide | exact Nat.le_refl _ | omega); (case g => assumption); (case d => decide); (case e => rfl); (case p => rfl))
  | ((with_reducible refine' we_call1 (x := "_law_ledger") ?c ?x ?j ?g ?d ?e ?p ?_); (case c => assumption); (case x => assumption); (case j => first | decide | exact Nat.le_refl _ | omega); (case g => assumption); (case d => decide); (case e => rfl); (case p => rfl))
  | ((with_reducible refine' we_call1 (x := "_law_turned") ?c ?x ?j ?g ?d ?e ?p ?_); (case c => assumption); (case x => assumption); (case j => first | decide | exact Nat.le_refl _ | omega); (case g => assumption); (case d => decide); (case e => rfl); (case p => rfl))
  | ((with_reducible refine' we_call (x := "_law_reduced") ?c ?x ?j ?g ?d ?e ?p ?_); (case c => assumption); (case x => assumption); (case j => first | decide | exact Nat.le_refl _ | omega); (case g => assumption); (case d => decide); (case e => rfl); (case p => rfl))
  | ((with_reducible refine' we_call (x := "_law_freed") ?c ?x ?j ?g ?d ?e ?p ?_); (case c => assumption); (case x => assumption); (case j => first | decide | exact Nat.le_refl _ | omega); (case g => assumption); (case d => decide); (case e => rfl); (case p => rfl))
  | ((with_reducible refine' we_call1 (x := "_law_lots") ?c ?x ?j ?g ?d ?e ?p ?_); (case c => assumption); (case x => assumption); (case j => first | decide | exact Nat.le_refl _ | omega); (case g => assumption); (case d => decide); (case e => rfl); (case p => rfl))
  | ((with_reducible refine' we_call (x := "law") ?c ?x ?j ?g ?d ?e ?p ?_); (case c => assumption); (case x => assumption); (case j => first | decide | exact Nat.le_refl _ | omega); (case g => assumption); (case d => decide); (case e => rfl); (case p => rfl)))
/-! the steps: one line a construct -/
local macro_rules | `(tactic| row_cond dlen) => `(tactic| (intro ds M R Q h; first | (obtain ⟨h1, _⟩ := h; subst h1; rfl) | (obtain ⟨_, h1, _⟩ := h; subst h1; rfl) | (obtain ⟨_, _, h1, _⟩ := h; subst h1; rfl) | (obtain ⟨_, _, _, h1, _⟩ := h; subst h1; rfl) | (obtain ⟨_, _, _, _, h1, _⟩ := h; subst h1; rfl) | (obtain ⟨_, _, _, _, _, h1, _⟩ := h; subst h1; rfl) | (obtain ⟨_, _, _, _, _, _, h1, _⟩ := h; subst h1; rfl) | (obtain ⟨_, _, _, _, _, _, _, h1, _⟩ := h; subst h1; rfl) | (obtain ⟨_, _, _, _, _, _, _, _, h1, _⟩ := h; subst h1; rfl) | (obtain ⟨_, _, _, _, _, _, _, _, _, h1, _⟩ := h; subst h1; rfl) | (obtain ⟨_, _, _, _, _, _, _, _, _, _, h1, _⟩ := h; subst h1; rfl) | (obtain ⟨_, _, _, _, _, _, _, _, _, _, _, h1, _⟩ := h; subst h1; rfl) | (obtain ⟨_, _, _, _, _, _, _, _, _, _, _, _, h1, _⟩ := h; subst h1; rfl)))
local macro_rules | `(tactic| row_cond dsz) => `(tactic| first | exact Nat.le_of_ble_eq_true rfl | assumption | (simp only [List.length_map, List.length_cons, List.length_append, List.length_nil, List.length_reverse, List.length_take, List.length_drop, PySem.sizeLine]; omega))
/- expressions -/
local macro_rules | `(tactic| row_cond dE) => `(tactic| first
  | ((with_reducible refine' we_name ?n ?e ?_); (case n => assumption); (case e => rfl))
  | (with_reducible refine we_int ?_)
  | (with_reducible refine we_bl ?_)
  | (with_reducible refine we_str ?_)
  | (with_reducible refine we_non ?_)
  | (with_reducible refine we_bin ?_)
  | ((with_reducible refine' we_cmp ?n ?_); (case n => rfl))
  | (with_reducible refine we_slice ?_)
  | (with_reducible refine we_rev ?_)
  | ((with_reducible refine' we_ix ?n ?_); (case n => exact fun _ _ => rfl))
  | (with_reducible refine we_tupV ?_)
  | (with_reducible refine we_lstV ?_)
  | ((with_reducible refine' we_blt ?b ?n ?m ?_); (case b => assumption); (case n => rfl); (case m => rfl))
  | ((with_reducible refine' we_typ ?b ?n ?m ?_); (case b => assumption); (case n => rfl); (case m => rfl))
  | ((with_reducible refine' we_tyName ?b ?_); (case b => assumption))
  | (with_reducible refine we_one ?_)
  | (with_reducible refine we_and ?_)
  | (with_reducible refine we_or ?_)
  | (with_reducible refine we_not ?_)
  | (with_reducible refine we_ifexp ?_)
  | ((with_reducible refine' we_un ?n ?_); (case n => exact fun z => nomatch z))
  | row_cond dcall
  | ((with_reducible refine we_bm (T := "list") PySem.F.plainAttrs_list PySem.F.slot_list_append PySem.F.type_list_append ?a ?b ?c ?d ?e ?_); (case a => rfl); (case b => rfl); (case c => rfl); (case d => rfl); (case e => rfl))
  | ((with_reducible refine we_bm0 (T := "list") PySem.F.plainAttrs_list PySem.F.slot_list_pop PySem.F.type_list_pop ?a ?b ?_); (case a => rfl); (case b => rfl))
  | ((with_reducible refine we_bm (T := "list") PySem.F.plainAttrs_list PySem.F.slot_list_extend PySem.F.type_list_extend ?a ?b ?c ?d ?e ?_); (case a => rfl); (case b => rfl); (case c => rfl); (case d => rfl); (case e => rfl)))
/- tests -/
local macro_rules | `(tactic| row_cond dT) => `(tactic| first
  | ((with_reducible refine' wt_cmp ?n ?_); (case n => rfl))
  | (with_reducible refine wt_not ?_)
  | (with_reducible refine wt_bool ?_)
  | (with_reducible refine ww_and1 ?_)
  | (with_reducible refine ww_or1 ?_)
  | (with_reducible refine ww_and ?_)
  | (with_reducible refine ww_or ?_)
  | ((with_reducible refine' wt_val ?n ?_); (case n => exact fun _ => rfl)))
/- statements -/
local macro_rules | `(tactic| row_cond dS) => `(tactic| first
  | (with_reducible refine wss_cons ?_)
  | (with_reducible refine wss_nil ?_)
  | ((with_reducible refine' ws_set ?a ?n ?h ?_); (case a => assumption); (case n => assumption); (case h => rfl))
  | ((with_reducible refine' ws_sub ?h ?_); (case h => rfl))
  | ((with_reducible refine' ws_asg ?a ?n ?h ?_); (case a => rfl); (case n => rfl); (case h => rfl))
  | (with_reducible refine ws_if ?_)
  | row_cond dret
  | ((with_reducible refine' ws_expr ?h ?_); (case h => rfl))
  | (with_reducible refine ws_pass ?_)
  | (with_reducible refine ws_break ?_)
  | (with_reducible refine ws_continue ?_)
  | (with_reducible refine ws_retN ?_))
local macro_rules | `(tactic| row_cond dSn) => `(tactic| first
  | (with_reducible refine wss_cons ?_)
  | (with_reducible refine wss_nil ?_)
  | ((with_reducible refine' ws_set ?a ?n ?h ?_); (case a => assumption); (case n => assumption); (case h => rfl))
  | ((with_reducible refine' ws_sub ?h ?_); (case h => rfl))
  | ((with_reducible refine' ws_asg ?a ?n ?h ?_); (case a => rfl); (case n => rfl); (case h => rfl))
  | row_cond dret
  | ((with_reducible refine' ws_expr ?h ?_); (case h => rfl))
  | (with_reducible refine ws_pass ?_)
  | (with_reducible refine ws_break ?_)
  | (with_reducible refine ws_continue ?_)
  | (with_reducible refine ws_retN ?_))
/- arguments, targets, values -/
local macro_rules | `(tactic| row_cond dV) => `(tactic| first
  | (with_reducible refine wa_nil ?_)
  | ((with_reducible refine' wa_cons ?n ?_); (case n => rfl))
  | (with_reducible refine wav_nil ?_)
  | ((with_reducible refine' wav_cons ?n ?_); (case n => rfl))
  | (with_reducible refine put_go ?_)
  | (with_reducible refine fz_lst ?_)
  | (with_reducible refine fz_tup ?_)
  | (with_reducible refine fz_id ?_)
  | (with_reducible refine own0_go ?_)
  | (with_reducible refine own1_go ?_)
  | (with_reducible refine app_go ?_)
  | (with_reducible refine mset_go ?_)
  | ((with_reducible refine' wg_name ?a ?n ?_); (case a => assumption); (case n => assumption))
  | ((with_reducible refine' wg_tup ?a ?n ?h ?_); (case a => assumption); (case n => rfl); (case h => rfl))
  | (with_reducible refine wgs_nil ?_)
  | ((with_reducible refine' wgs_cons ?n ?_); (case n => rfl))
  | (with_reducible refine wpt_none ?_)
  | (with_reducible refine wpt_some ?_)
  | ((with_reducible refine' wset_list ?n ?_); (case n => first | rfl | row_cond dix)))
/- what is walked -/
local macro_rules | `(tactic| row_cond dI) => `(tactic| first
  | ((with_reducible refine' wi_range1 ?a ?b ?c ?_); (case a => exact BltAt.gl (by assumption)); (case b => exact BltAt.mg (by assumption)); (case c => rfl))
  | ((with_reducible refine' wi_range2 ?a ?b ?c ?d ?_); (case a => exact BltAt.gl (by assumption)); (case b => exact BltAt.mg (by assumption)); (case c => rfl); (case d => rfl))
  | (with_reducible refine wi_val ?_)
  | (with_reducible refine wiv_list ?_)
  | (with_reducible refine wiv_tup ?_)
  | (with_reducible refine wiv_seq ?_)
  | ((with_reducible refine' wgc_name ?a ?n ?h ?_); (case a => assumption); (case n => assumption); (case h => decide))
  | ((with_reducible refine' wgc_tup ?a ?n ?h ?_); (case a => assumption); (case n => rfl); (case h => rfl))
  | (with_reducible refine wgcs_nil ?_)
  | ((with_reducible refine' wgcs_cons ?n ?_); (case n => rfl))
  | (with_reducible refine wts_nil ?_)
  | (with_reducible refine wts_one ?_))
/- operations by values -/
local macro_rules | `(tactic| row_cond dO) => `(tactic| first
  | (with_reducible refine wo_add ?_)
  | (with_reducible refine wo_sub ?_)
  | ((with_reducible refine' wo_mulS ?n ?_); (case n => first | exact .inr ⟨by decide, by decide⟩ | exact .inl ⟨by decide, by decide⟩ | exact .inr ⟨by omega, by omega⟩ | exact .inl ⟨by omega, by omega⟩))
  | ((with_reducible refine' wo_fdiv ?n ?m ?_); (case n => first | decide | omega); (case m => first | decide | row_cond dlog))
  | ((with_reducible refine' wo_mod ?n ?_); (case n => first | decide | omega))
  | (with_reducible refine wo_powL ?_)
  | ((with_reducible refine' wo_pow ?n ?_); (case n => exact ⟨by decide, by decide, by decide⟩))
  | (with_reducible refine wo_xor ?_)
  | (with_reducible refine wo_lt ?_)
  | (with_reducible refine wo_le ?_)
  | (with_reducible refine wo_gt ?_)
  | (with_reducible refine wo_ge ?_)
  | (with_reducible refine wo_eqI ?_)
  | (with_reducible refine wo_neI ?_)
  | (with_reducible refine wo_eqS ?_)
  | (with_reducible refine wo_neS ?_)
  | (with_reducible refine wo_isN ?_)
  | (with_reducible refine wo_isnotN ?_)
  | (with_reducible refine wu_neg ?_)
  | (with_reducible refine wc_int ?_)
  | (with_reducible refine wc_intB ?_)
  | (with_reducible refine wc_abs ?_)
  | ((with_reducible refine' wc_max2 ?a ?_); (case a => assumption))
  | ((with_reducible refine' wc_min2 ?a ?_); (case a => assumption))
  | (with_reducible refine wc_list ?_)
  | (with_reducible refine wc_tuple ?_)
  | ((with_reducible refine' wc_lenS ?a ?_); (case a => row_cond dsz))
  | (with_reducible refine wc_lenM ?_)
  | (with_reducible refine wc_len ?_)
  | (with_reducible refine wc_isK ?_)
  | ((with_reducible refine' wc_allM ?a ?_); (case a => assumption))
  | ((with_reducible refine' wc_anyM ?a ?_); (case a => assumption))
  | ((with_reducible refine' wc_sum ?a ?_); (case a => assumption))
  | ((with_reducible refine' wx_list ?n ?_); (case n => row_cond dat))
  | ((with_reducible refine' wx_map ?a ?b ?_); (case a => omega); (case b => omega))
  | ((with_reducible refine' wx_seq ?a ?b ?_); (case a => omega); (case b => omega))
  | ((with_reducible refine' wx_tup ?n ?_); (case n => row_cond dat))
  | (with_reducible refine wsl_listM ?_)
  | (with_reducible refine wsl_list ?_)
  | (with_reducible refine wrev_goM ?_)
  | (with_reducible refine wrev_go ?_)
  | ((with_reducible refine' wo_catM ?n ?_); (case n => row_cond dsz))
  | ((with_reducible refine' wo_cat ?n ?_); (case n => row_cond dsz))
  | ((with_reducible refine' wm_append ?n ?_); (case n => row_cond dsz)))
local macro_rules | `(tactic| row_cond dat) => `(tactic| rfl)
local macro_rules | `(tactic| row_cond dix) => `(tactic| rfl)
local macro_rules | `(tactic| row_cond dlog) => `(tactic| first | decide | exact log_small (by omega) (by omega))
/- what stands between -/
local macro_rules | `(tactic| row_cond dQ) => `(tactic| first
  | (with_reducible refine ⟨_, rfl, ?_⟩)
  | (with_reducible refine br_true ?_)
  | (with_reducible refine br_false ?_)
  | (with_reducible refine rb_true ?_)
  | (with_reducible refine rb_false ?_)
  | ((with_reducible refine' br_dec ?_ ?_) <;> intro _)
  | ((with_reducible refine' br_ndec ?_ ?_) <;> intro _)
  | ((with_reducible refine' rb_dec ?_ ?_) <;> intro _)
  | ((with_reducible refine' rb_ndec ?_ ?_) <;> intro _)
  | (refine br_is rfl ?_)
  | (refine br_isnot rfl ?_)
  | (refine rb_is rfl ?_)
  | (refine rb_isnot rfl ?_)
  | ((with_reducible refine' ⟨⟨?a, ?b⟩, ?_⟩); (case a => omega); (case b => omega))
  | ((with_reducible refine' ⟨⟨?a, ?b, ?c, ?d⟩, ?_⟩); (case a => omega); (case b => omega); (case c => omega); (case d => omega))
  | (with_reducible refine app_go ?_)
  | (with_reducible refine ⟨tym_list, ?_⟩)
  | (with_reducible refine ⟨tym_str, ?_⟩)
  | ((with_reducible refine ⟨?n, ?_⟩); (case n => (show _ ≤ PySem.sizeLine); row_cond dsz))
  | (with_reducible intro _))
local macro_rules | `(tactic| row_cond dstart) => `(tactic| simp only [startD, List.map_cons, List.map_nil, List.length_cons, List.length_nil, List.cons_append, List.nil_append, Nat.zero_add, Nat.reduceAdd, Nat.reduceSub, List.replicate_succ, List.replicate_zero])
local macro_rules | `(tactic| row_cond d) => `(tactic| first | row_cond dE | row_cond dV | row_cond dO | row_cond dT | row_cond dS | row_cond dI | row_cond dmore | row_cond dspec | row_cond dQ)
local macro_rules | `(tactic| row_cond dn) => `(tactic| first | row_cond dE | row_cond dV | row_cond dO | row_cond dT | row_cond dSn | row_cond dI | row_cond dmore | row_cond dspec | row_cond dQ)
local macro_rules | `(tactic| row_cond gon) => `(tactic| repeat' (row_cond dn))
local macro_rules | `(tactic| row_cond go) => `(tactic| repeat' (row_cond d))
/- the later parts of the layer -/
local macro_rules | `(tactic| row_cond dE) => `(tactic| first
  | ((with_reducible refine' we_sortedSet ?a ?b ?c ?d ?e ?_); (case a => assumption); (case b => assumption); (case c => assumption); (case d => rfl); (case e => rfl))
  | ((with_reducible refine' we_get2 ?a ?b ?_); (case a => assumption); (case b => exact ⟨rfl, rfl, rfl, rfl⟩))
  | ((with_reducible refine' we_get1 ?a ?b ?_); (case a => assumption); (case b => exact ⟨rfl, rfl, rfl, rfl⟩))
  | ((with_reducible refine' we_pop1 ?b ?_); (case b => exact ⟨rfl, rfl, rfl, rfl⟩)))
local macro_rules | `(tactic| row_cond dO) => `(tactic| first
  | ((with_reducible refine' wc_sorted ?a ?b ?c ?_); (case a => assumption); (case b => decide); (case c => first | exact fun _ _ => trivial | assumption))
  | ((with_reducible refine' wsorted_go ?a ?_); (case a => first | assumption | omega))
  | ((with_reducible refine' wo_inD ?a ?b ?_); (case a => assumption); (case b => decide))
  | ((with_reducible refine' wo_ninD ?a ?b ?_); (case a => assumption); (case b => decide))
  | (with_reducible refine getD_K ?_)
  | (with_reducible refine getD_T ?_)
  | ((with_reducible refine' wsl_txt ?a ?_); (case a => row_cond dsz))
  | ((with_reducible refine' wx_strN ?a ?b ?c ?_); (case a => row_cond dsz); (case b => omega); (case c => first | omega | (simp only [PySem.Str.length]; omega)))
  | (with_reducible refine ⟨isDD_K, ?_⟩)
  | (with_reducible refine ⟨isDD_T, ?_⟩))
local macro_rules | `(tactic| row_cond dO) => `(tactic| first
  | ((with_reducible refine' wm_appendM ?n ?_); (case n => row_cond dsz)))
local macro_rules | `(tactic| row_cond dE) => `(tactic| ((with_reducible refine' we_con ?c ?_); (case c => assumption)))
local macro_rules | `(tactic| row_cond dV) => `(tactic| first
  | (with_reducible refine wk_nil ?_)
  | (with_reducible refine wk_cons ?_)
  | (with_reducible refine ⟨rfl, rfl, ?_⟩))
local macro_rules | `(tactic| row_cond dI) => `(tactic| ((with_reducible refine' wi_range3 ?a ?b ?c ?d ?_); (case a => exact BltAt.gl (by assumption)); (case b => exact BltAt.mg (by assumption)); (case c => rfl); (case d => rfl)))
local macro_rules | `(tactic| row_cond dO) => `(tactic| first
  | ((with_reducible refine' wc_lenS ?a ?_); (case a => row_cond dsz)))
local macro_rules | `(tactic| row_cond dO) => `(tactic| first
  | ((with_reducible refine' wo_addS ?a ?_); (case a => row_cond dsz)))
local macro_rules | `(tactic| row_cond dO) => `(tactic| first
  | ((with_reducible refine' wo_addS2 ?a ?_); (case a => first | decide | omega))
  | ((with_reducible refine' wsl_txt2 ?a ?_); (case a => first | decide | omega))
  | ((with_reducible refine' wc_lenS2 ?a ?_); (case a => first | decide | omega)))
local macro_rules | `(tactic| row_cond dE) => `(tactic| first
  | ((with_reducible refine we_bm (T := "str") PySem.F.plainAttrs_str PySem.F.slot_str_index PySem.F.type_str_index ?a ?b ?c ?d ?e ?_); (case a => rfl); (case b => rfl); (case c => rfl); (case d => rfl); (case e => rfl))
  | ((with_reducible refine we_bm (T := "str") PySem.F.plainAttrs_str PySem.F.slot_str_join PySem.F.type_str_join ?a ?b ?c ?d ?e ?_); (case a => rfl); (case b => rfl); (case c => rfl); (case d => rfl); (case e => rfl))
  | ((with_reducible refine we_bm (T := "str") PySem.F.plainAttrs_str PySem.F.slot_str_startswith PySem.F.type_str_startswith ?a ?b ?c ?d ?e ?_); (case a => rfl); (case b => rfl); (case c => rfl); (case d => rfl); (case e => rfl)))
local macro_rules | `(tactic| row_cond dO) => `(tactic| first
  | (with_reducible refine wm_starts ?_))
local macro_rules | `(tactic| row_cond dret) => `(tactic| (with_reducible refine ws_ret ?_))
local macro_rules | `(tactic| row_cond dO) => `(tactic| first
  | ((with_reducible refine' wx_asK ?a ?b ?_); (case a => assumption); (case b => assumption))
  | ((with_reducible refine' wo_inAsK ?a ?_); (case a => assumption))
  | ((with_reducible refine' wo_ninAsK ?a ?_); (case a => assumption))
  | ((with_reducible refine' wset_asK ?a ?b ?_); (case a => assumption); (case b => row_cond dsz))
  | (with_reducible refine getD_asK ?_)
  | ((with_reducible refine' popD_asK ?b ?_); (case b => assumption))
  | ((with_reducible refine' wx_asT ?a ?b ?_); (case a => assumption); (case b => assumption))
  | ((with_reducible refine' wo_inAsT ?a ?_); (case a => assumption))
  | ((with_reducible refine' wo_ninAsT ?a ?_); (case a => assumption))
  | ((with_reducible refine' wset_asT ?a ?b ?_); (case a => assumption); (case b => row_cond dsz))
  | (with_reducible refine getD_asT ?_)
  | ((with_reducible refine' wc_sortedAs ?a ?_); (case a => assumption)))
local macro_rules | `(tactic| row_cond dO) => `(tactic| first
  | (with_reducible refine wc_lenAsK ?_)
  | (with_reducible refine wc_lenAsT ?_))
local macro_rules | `(tactic| row_cond dI) => `(tactic| first
  | (with_reducible refine wiv_asK ?_))
local macro_rules | `(tactic| row_cond dV) => `(tactic| (with_reducible refine star_go ?_))
local macro_rules | `(tactic| row_cond dO) => `(tactic| first
  | ((with_reducible refine' wc_sortedAsT ?a ?b ?_); (case a => assumption); (case b => assumption))
  | ((with_reducible refine' wm_insert ?a ?b ?c ?_); (case a => row_cond dsz); (case b => omega); (case c => omega)))
local macro_rules | `(tactic| row_cond dE) => `(tactic| first
  | ((with_reducible refine we_bm (T := "list") PySem.F.plainAttrs_list PySem.F.slot_list_insert PySem.F.type_list_insert ?a ?b ?c ?d ?e ?_); (case a => rfl); (case b => rfl); (case c => rfl); (case d => rfl); (case e => rfl)))

/-! ### _law_is of equal data, lists at their places within -/
inductive IsV (R : Mem) : Nat → D → D → Prop where
  | non (n : Nat) : IsV R n .non .non
  | int (n : Nat) (i : Int) : IsV R n (.int i) (.int i)
  | str (n : Nat) (z : Str) : IsV R n (.str z) (.str z)
  | tup {n : Nat} {ds cs : List D} : ds.length = cs.length → ds.length ≤ 16777216 → (∀ (i : Nat) d c, ds[i]? = some d → cs[i]? = some c → IsV R n d c) → IsV R (n + 1) (.tup ds) (.tup cs)
  | lst {n : Nat} {d : D} {ds cs : List D} : See [] R d (.lst ds) → ds.length = cs.length → ds.length ≤ 16777216 → (∀ (i : Nat) d c, ds[i]? = some d → cs[i]? = some c → IsV R n d c) → IsV R (n + 1) d (.lst cs)
theorem isv_wk {q : Addr × D} {R : Mem} {n : Nat} {d c : D} (h : IsV R n d c) : IsV (q :: R) n d c := by
  induction h with
  | non n => exact .non n
  | int n i => exact .int n i
  | str n z => exact .str n z
  | tup a b _ ih => exact .tup a b ih
  | lst s a b _ ih => exact .lst (see_wk s) a b ih
theorem isv_self {R : Mem} : ∀ {n : Nat} {c : D}, Isd n c → IsV R n c c := by
  intro n
  induction n with
  | zero =>
    intro c h
    cases c <;> first | exact h.elim | constructor
  | succ n ih =>
    intro c h
    cases c with
    | tup ds => exact .tup rfl h.1 fun i d c e1 e2 => by rw [e1] at e2; cases e2; exact ih (h.2 d (List.mem_of_getElem? e1))
    | lst ds => exact .lst (.self _) rfl h.1 fun i d c e1 e2 => by rw [e1] at e2; cases e2; exact ih (h.2 d (List.mem_of_getElem? e1))
    | non => exact .non _
    | int _ => exact .int _ _
    | str _ => exact .str _ _
    | bl _ => exact h.elim
    | ref _ => exact h.elim
    | ty _ => exact h.elim
    | dK _ => exact h.elim
    | dT _ => exact h.elim
    | st _ => exact h.elim
    | ins _ _ => exact h.elim
theorem isv_lst {R : Mem} {n : Nat} {d : D} {cs : List D} [s : SeeL [] R d cs] (h : Isd (n + 1) (.lst cs)) : IsV R (n + 1) d (.lst cs) := .lst s.see rfl h.1 fun i d c e1 e2 => by
  rw [e1] at e2; cases e2; exact isv_self (h.2 d (List.mem_of_getElem? e1))
theorem isv_two {R : Mem} {n : Nat} {a b c d : D} (h : IsV R n a c) (k : IsV R n b d) : IsV R (n + 1) (.tup [a, b]) (.tup [c, d]) := .tup rfl (Nat.le_of_ble_eq_true rfl) fun i x y e1 e2 => by
  match i, e1, e2 with
  | 0, e1, e2 => cases e1; cases e2; exact h
  | 1, e1, e2 => cases e1; cases e2; exact k
def sp_law_is (n : Nat) : SpD := fun ds M R Q => ∃ (d1 d2 c : D), ds = [d1, d2] ∧ M = [] ∧ IsV R n d1 c ∧ IsV R n d2 c ∧ Q (.bl true) []
theorem cal_law_is0 {P : Program} {w : World} {K : PySem.W.Frag} {mg : Str → Option Value} {base : Heap} (T : Tx mg) (Da : DefAt K mg "_law_is" s_law_is)  : Cal P w K mg base (1) "_law_is" (sp_law_is 0) := by
  refine calD (k := 0) Da sc_law_is (fun f fd Fu => Fu.binds fun _ _ _ _ _ _ us hl => match us, hl with | [_, _], _ => rfl) (by row_cond dlen) (fun X F hX nm ds M R Q hS => ?_)
  have hst := hX.std
  have n_told : NameAt X 0 "told" := nm.name rfl (.inr rfl) (by decide) (by decide)
  have s_told : StoreAt X 0 "told" := nm.store rfl (.inr rfl)
  have n_due : NameAt X 1 "due" := nm.name rfl (.inr rfl) (by decide) (by decide)
  have s_due : StoreAt X 1 "due" := nm.store rfl (.inr rfl)
  have b_isinstance : BltAt X "isinstance" (.builtin "isinstance") := nm.blt hX rfl T.z_isinstance bo_isinstance (by decide) (by decide)
  have b_int : BltAt X "int" (.type "int") := nm.blt hX rfl T.z_int bo_int (by decide) (by decide)
  have b_bool : BltAt X "bool" (.type "bool") := nm.blt hX rfl T.z_bool bo_bool (by decide) (by decide)
  have b_str : BltAt X "str" (.type "str") := nm.blt hX rfl T.z_str bo_str (by decide) (by decide)
  have b_dict : BltAt X "dict" (.type "dict") := nm.blt hX rfl T.z_dict bo_dict (by decide) (by decide)
  have b_len : BltAt X "len" (.builtin "len") := nm.blt hX rfl T.z_len bo_len (by decide) (by decide)
  have b_all : BltAt X "all" (.builtin "all") := nm.blt hX rfl T.z_all bo_all (by decide) (by decide)
  have b_tuple : BltAt X "tuple" (.type "tuple") := nm.blt hX rfl T.z_tuple bo_tuple (by decide) (by decide)
  have b_list : BltAt X "list" (.type "list") := nm.blt hX rfl T.z_list bo_list (by decide) (by decide)
  have b_range : BltAt X "range" (.type "range") := nm.blt hX rfl T.z_range bo_range (by decide) (by decide)
  have m_range : X.mg "range" = none := by rw [hX.mg]; exact T.z_range
  obtain ⟨d1, d2, c, rfl, rfl, h1, h2, hq⟩ := hS
  row_cond dstart
  cases h1 with
  | non => cases h2; refine wss_cons ?_; row_cond go; exact rt0 hq
  | int _ i => cases h2; refine wss_cons ?_; row_cond go; refine rt0 ?_; simpa using hq
  | str _ z => cases h2; refine wss_cons ?_; row_cond go; refine rt0 ?_; simpa using hq
theorem see_notnon {R : Mem} {d : D} {ds : List D} (h : See [] R d (.lst ds)) : isNon d = false := by
  cases h with
  | self => rfl
  | own h => cases h
  | rd h => rfl
local macro_rules | `(tactic| row_cond dspec) => `(tactic| fail)
theorem cal_law_isS {P : Program} {w : World} {K : PySem.W.Frag} {mg : Str → Option Value} {base : Heap} {n : Nat} (T : Tx mg) (Da : DefAt K mg "_law_is" s_law_is) (c_law_is : Cal P w K mg base (n+1) "_law_is" (sp_law_is n)) : Cal P w K mg base (n+2) "_law_is" (sp_law_is (n+1)) := by
  refine calD (k := (n+1)) Da sc_law_is (fun f fd Fu => Fu.binds fun _ _ _ _ _ _ us hl => match us, hl with | [_, _], _ => rfl) (by row_cond dlen) (fun X F hX nm ds M R Q hS => ?_)
  have hst := hX.std
  have n_told : NameAt X 0 "told" := nm.name rfl (.inr rfl) (by decide) (by decide)
  have s_told : StoreAt X 0 "told" := nm.store rfl (.inr rfl)
  have n_due : NameAt X 1 "due" := nm.name rfl (.inr rfl) (by decide) (by decide)
  have s_due : StoreAt X 1 "due" := nm.store rfl (.inr rfl)
  have b_isinstance : BltAt X "isinstance" (.builtin "isinstance") := nm.blt hX rfl T.z_isinstance bo_isinstance (by decide) (by decide)
  have b_int : BltAt X "int" (.type "int") := nm.blt hX rfl T.z_int bo_int (by decide) (by decide)
  have b_bool : BltAt X "bool" (.type "bool") := nm.blt hX rfl T.z_bool bo_bool (by decide) (by decide)
  have b_str : BltAt X "str" (.type "str") := nm.blt hX rfl T.z_str bo_str (by decide) (by decide)
  have b_dict : BltAt X "dict" (.type "dict") := nm.blt hX rfl T.z_dict bo_dict (by decide) (by decide)
  have b_len : BltAt X "len" (.builtin "len") := nm.blt hX rfl T.z_len bo_len (by decide) (by decide)
  have b_all : BltAt X "all" (.builtin "all") := nm.blt hX rfl T.z_all bo_all (by decide) (by decide)
  have b_tuple : BltAt X "tuple" (.type "tuple") := nm.blt hX rfl T.z_tuple bo_tuple (by decide) (by decide)
  have b_list : BltAt X "list" (.type "list") := nm.blt hX rfl T.z_list bo_list (by decide) (by decide)
  have b_range : BltAt X "range" (.type "range") := nm.blt hX rfl T.z_range bo_range (by decide) (by decide)
  have m_range : X.mg "range" = none := by rw [hX.mg]; exact T.z_range
  obtain ⟨d1, d2, c, rfl, rfl, h1, h2, hq⟩ := hS
  row_cond dstart
  cases h1 with
  | non => cases h2; refine wss_cons ?_; row_cond go; exact rt0 hq
  | int _ i => cases h2; refine wss_cons ?_; row_cond go; refine rt0 ?_; simpa using hq
  | str _ z => cases h2; refine wss_cons ?_; row_cond go; refine rt0 ?_; simpa using hq
  | @tup _ us cs hl1 hz1 hu =>
    cases h2 with
    | @tup _ ws _ hl2 hz2 hw =>
      have hl : us.length = ws.length := by omega
      have hlen : ws.length ≤ 16777216 := hz2
      refine wss_cons ?_
      row_cond go
      · refine we_lc' hst (own := [("k", 3)]) (nm.blk (by decide +kernel)) (fun _ => rfl) rfl ?_
        row_cond go
        refine lc_name hX (by rw [nm.N]; rfl) (.inl rfl) (fun i acc M' => acc = (List.replicate i true).map D.bl ∧ M' = []) ⟨rfl, rfl⟩ (fun _ _ _ _ _ => trivial) (fun a i x acc M' hx hW => ?_) (fun a acc M' hW => ?_)
        · obtain ⟨rfl, rfl⟩ := hW
          obtain ⟨hi, rfl⟩ := rngD_at hx
          have hi' : i < ws.length := by omega
          have hi2 : i < us.length := by omega
          refine put_go (fun X' hb => ?_)
          have hX_X' := hb.inn hX
          have hst_X' := hX_X'.std
          have n_k_X' : NameAt X' 3 "k" := hb.name (by rw [nm.N]; rfl) (by first | exact .inl rfl | exact .inr (.inl rfl) | exact .inr (.inr rfl)) (by decide) (by decide)
          have s_k_X' : StoreAt X' 3 "k" := hb.store (by rw [nm.N]; rfl) (by first | exact .inl rfl | exact .inr rfl)
          have g_law_is_X' : Gl X' "_law_is" := hb.gl rfl
          have n_told_X' : NameAt X' 0 "told" := hb.name (by rw [nm.N]; rfl) (by first | exact .inl rfl | exact .inr (.inl rfl) | exact .inr (.inr rfl)) (by decide) (by decide)
          have n_due_X' : NameAt X' 1 "due" := hb.name (by rw [nm.N]; rfl) (by first | exact .inl rfl | exact .inr (.inl rfl) | exact .inr (.inr rfl)) (by decide) (by decide)
          row_cond go
          rename_i y1 h1 y2 h2
          obtain ⟨cc, hcc⟩ : ∃ cc, cs[(0 + (i : Int)).toNat]? = some cc := ⟨_, List.getElem?_eq_getElem (by omega)⟩
          refine ⟨y1, y2, cc, rfl, rfl, isv_wk (hu _ _ _ h1 hcc), isv_wk (hw _ _ _ h2 hcc), ?_⟩
          row_cond go
          refine lcend_id (by rw [List.length_map, List.length_replicate]; show i < 16777216; omega) ⟨by rw [List.replicate_succ', List.map_append]; rfl, rfl⟩
        · obtain ⟨rfl, rfl⟩ := hW
          row_cond go
          refine rt0 ?_
          rw [all_rep]; exact hq
      · rename_i z; exact absurd (by rw [hl]) z
  | @lst _ _ us cs s1 hl1 hz1 hu =>
    cases h2 with
    | @lst _ _ ws _ s2 hl2 hz2 hw =>
      have hl : us.length = ws.length := by omega
      have hlen : ws.length ≤ 16777216 := hz2
      haveI i1 : SeeL [] R d1 us := ⟨s1⟩
      haveI i2 : SeeL [] R d2 ws := ⟨s2⟩
      have nn : isNon d2 = false := see_notnon s2
      refine wss_cons ?_
      row_cond go
      refine br_isnot nn ?_
      row_cond go
      · refine we_lc' hst (own := [("k", 3)]) (nm.blk (by decide +kernel)) (fun _ => rfl) rfl ?_
        row_cond go
        refine lc_name hX (by rw [nm.N]; rfl) (.inl rfl) (fun i acc M' => acc = (List.replicate i true).map D.bl ∧ M' = []) ⟨rfl, rfl⟩ (fun _ _ _ _ _ => trivial) (fun a i x acc M' hx hW => ?_) (fun a acc M' hW => ?_)
        · obtain ⟨rfl, rfl⟩ := hW
          obtain ⟨hi, rfl⟩ := rngD_at hx
          have hi' : i < ws.length := by omega
          have hi2 : i < us.length := by omega
          refine put_go (fun X' hb => ?_)
          have hX_X' := hb.inn hX
          have hst_X' := hX_X'.std
          have n_k_X' : NameAt X' 3 "k" := hb.name (by rw [nm.N]; rfl) (by first | exact .inl rfl | exact .inr (.inl rfl) | exact .inr (.inr rfl)) (by decide) (by decide)
          have s_k_X' : StoreAt X' 3 "k" := hb.store (by rw [nm.N]; rfl) (by first | exact .inl rfl | exact .inr rfl)
          have g_law_is_X' : Gl X' "_law_is" := hb.gl rfl
          have n_told_X' : NameAt X' 0 "told" := hb.name (by rw [nm.N]; rfl) (by first | exact .inl rfl | exact .inr (.inl rfl) | exact .inr (.inr rfl)) (by decide) (by decide)
          have n_due_X' : NameAt X' 1 "due" := hb.name (by rw [nm.N]; rfl) (by first | exact .inl rfl | exact .inr (.inl rfl) | exact .inr (.inr rfl)) (by decide) (by decide)
          row_cond go
          rename_i y1 h1 y2 h2
          obtain ⟨cc, hcc⟩ : ∃ cc, cs[(0 + (i : Int)).toNat]? = some cc := ⟨_, List.getElem?_eq_getElem (by omega)⟩
          refine ⟨y1, y2, cc, rfl, rfl, isv_wk (hu _ _ _ h1 hcc), isv_wk (hw _ _ _ h2 hcc), ?_⟩
          row_cond go
          refine lcend_id (by rw [List.length_map, List.length_replicate]; show i < 16777216; omega) ⟨by rw [List.replicate_succ', List.map_append]; rfl, rfl⟩
        · obtain ⟨rfl, rfl⟩ := hW
          row_cond go
          refine rt0 ?_
          rw [all_rep]; exact hq
      · rename_i z; exact absurd (by rw [hl]) z
theorem isd_int (m : Nat) (i : Int) : Isd m (.int i) := by cases m <;> trivial
theorem isd_str (m : Nat) (i : Str) : Isd m (.str i) := by cases m <;> trivial
theorem isd_non (m : Nat) : Isd m .non := by cases m <;> trivial
class IsdC {α : Type} (f : α → D) (n : outParam Nat) : Prop where
  h : ∀ (m : Nat) (a : α), n ≤ m → Isd m (f a)
instance IsdC.int : IsdC D.int 0 := ⟨fun m a _ => isd_int m a⟩
instance IsdC.str : IsdC D.str 0 := ⟨fun m a _ => isd_str m a⟩
theorem isd_mapL {α : Type} {f : α → D} {n m : Nat} [c : IsdC f n] {xs : List α} (hl : xs.length ≤ 16777216) (hm : n + 1 ≤ m) : Isd m (.lst (xs.map f)) := by
  obtain ⟨k, rfl⟩ : ∃ k, m = k + 1 := ⟨m - 1, by omega⟩
  refine ⟨by rw [List.length_map]; exact hl, fun d hd => ?_⟩
  obtain ⟨a, _, rfl⟩ := List.mem_map.mp hd
  exact c.h k a (by omega)
theorem isd_mapT {α : Type} {f : α → D} {n m : Nat} [c : IsdC f n] {xs : List α} (hl : xs.length ≤ 16777216) (hm : n + 1 ≤ m) : Isd m (.tup (xs.map f)) := by
  obtain ⟨k, rfl⟩ : ∃ k, m = k + 1 := ⟨m - 1, by omega⟩
  refine ⟨by rw [List.length_map]; exact hl, fun d hd => ?_⟩
  obtain ⟨a, _, rfl⟩ := List.mem_map.mp hd
  exact c.h k a (by omega)
theorem isd_two {m : Nat} {a b : D} (ha : Isd m a) (hb : Isd m b) : Isd (m + 1) (.tup [a, b]) := ⟨Nat.le_of_ble_eq_true rfl, fun d hd => by
  rcases List.mem_cons.mp hd with rfl | hd
  · exact ha
  · rw [List.mem_singleton.mp hd]; exact hb⟩
theorem sp_law_is_self {n : Nat} {d : D} {R : Mem} {Q : D → Mem → Prop} (h : Isd n d) (q : Q (.bl true) []) : sp_law_is n [d, d] [] R Q := ⟨d, d, d, rfl, rfl, isv_self h, isv_self h, q⟩
theorem sp_law_is_lst {n : Nat} {d1 d2 : D} {ds : List D} {R : Mem} {Q : D → Mem → Prop} [h1 : SeeL [] R d1 ds] [h2 : SeeL [] R d2 ds] (h : Isd (n + 1) (.lst ds)) (q : Q (.bl true) []) : sp_law_is (n + 1) [d1, d2] [] R Q := ⟨d1, d2, _, rfl, rfl, isv_lst h, isv_lst h, q⟩
theorem sp_law_is_eq {n : Nat} {d e : D} {R : Mem} {Q : D → Mem → Prop} (he : d = e) (h : Isd n d) (q : Q (.bl true) []) : sp_law_is n [d, e] [] R Q := by
  subst he; exact sp_law_is_self h q
theorem sp_law_is_leq {n : Nat} {d1 d2 : D} {ds es : List D} {R : Mem} {Q : D → Mem → Prop} [h1 : SeeL [] R d1 ds] [h2 : SeeL [] R d2 es] (he : ds = es) (h : Isd (n + 1) (.lst ds)) (q : Q (.bl true) []) : sp_law_is (n + 1) [d1, d2] [] R Q := by
  subst he; exact sp_law_is_lst h q

end K50


namespace K50
open PySem PySem.Spec PyProof.Rows L2 DL

/-! ### ledgers, in plain words -/
abbrev gW : Str → Key := Sum.inr
abbrev Lot := List Str
abbrev Lg := List (Lot × Int)
abbrev encRow (r : Lot × Int) : D := .tup [encLot r.1, .int r.2]
abbrev ltRow : Lot × Int → Lot × Int → Bool := ltP2 (ltL ltS) ltI
instance DOrd.row : DOrd encRow ltRow 2 := DOrd.pair DOrd.lot DOrd.int
def srtL (es : Lg) : Lg := srt ltRow es
def addT (es : Lg) (l : Lot) (c : Int) : Lg := putE es l ((getE es l).getD 0 + c)
def tab (rs : Lg) : Lg := rs.foldl (fun es r => addT es r.1 r.2) []
def sumIf (p : Lot → Bool) (rs : Lg) : Int := ((rs.filter fun r => p r.1).map (·.2)).sum
theorem sumIf_nil (p : Lot → Bool) : sumIf p [] = 0 := rfl
theorem sumIf_cons (p : Lot → Bool) (r : Lot × Int) (rs : Lg) : sumIf p (r :: rs) = (if p r.1 then r.2 else 0) + sumIf p rs := by
  unfold sumIf
  by_cases h : p r.1 = true
  · rw [List.filter_cons_of_pos (by simpa using h), if_pos h, List.map_cons, List.sum_cons]
  · rw [List.filter_cons_of_neg (by simpa using h), if_neg h, Int.zero_add]
theorem sumIf_app (p : Lot → Bool) (rs ts : Lg) : sumIf p (rs ++ ts) = sumIf p rs + sumIf p ts := by
  induction rs with
  | nil => rw [List.nil_append, sumIf_nil, Int.zero_add]
  | cons r rs ih => rw [List.cons_append, sumIf_cons, sumIf_cons, ih, Int.add_assoc]
theorem sumIf_perm {p : Lot → Bool} {rs ts : Lg} (h : rs.Perm ts) : sumIf p rs = sumIf p ts := by
  induction h with
  | nil => rfl
  | cons r _ ih => rw [sumIf_cons, sumIf_cons, ih]
  | swap a b l => simp only [sumIf_cons]; omega
  | trans _ _ h1 h2 => rw [h1, h2]
theorem sumIf_congr {p q : Lot → Bool} {rs : Lg} (h : ∀ r ∈ rs, p r.1 = q r.1) : sumIf p rs = sumIf q rs := by
  induction rs with
  | nil => rfl
  | cons r rs ih => rw [sumIf_cons, sumIf_cons, h r List.mem_cons_self, ih fun x hx => h x (List.mem_cons_of_mem _ hx)]
theorem sumIf_map {p : Lot → Bool} {m : Lot → Lot} {rs : Lg} : sumIf p (rs.map fun r => (m r.1, r.2)) = sumIf (fun l => p (m l)) rs := by
  induction rs with
  | nil => rfl
  | cons r rs ih => rw [List.map_cons, sumIf_cons, sumIf_cons, ih]
theorem sumIf_filter {p q : Lot → Bool} {rs : Lg} : sumIf p (rs.filter fun r => q r.1) = sumIf (fun l => q l && p l) rs := by
  unfold sumIf
  rw [List.filter_filter]
  congr 2
  refine List.filter_congr fun r _ => ?_
  exact Bool.and_comm _ _
theorem sumIf_split {p q : Lot → Bool} {rs : Lg} : sumIf p rs = sumIf (fun l => p l && q l) rs + sumIf (fun l => p l && !q l) rs := by
  induction rs with
  | nil => rfl
  | cons r rs ih =>
    simp only [sumIf_cons]
    rw [ih]
    cases p r.1 <;> cases q r.1 <;> simp <;> omega
theorem getE_iff {α β : Type} [DecidableEq α] {es : List (α × β)} {a : α} : (getE es a).isSome = true ↔ a ∈ es.map (·.1) := by rw [getE_some, decide_eq_true_eq]
theorem tab_snoc (rs : Lg) (r : Lot × Int) : tab (rs ++ [r]) = addT (tab rs) r.1 r.2 := by
  unfold tab; rw [List.foldl_append]; rfl
theorem tab_nodup (rs : Lg) : ((tab rs).map (·.1)).Nodup := by
  have aux : ∀ (rs es : Lg), (es.map (·.1)).Nodup → ((rs.foldl (fun es r => addT es r.1 r.2) es).map (·.1)).Nodup := by
    intro rs
    induction rs with
    | nil => exact fun _ h => h
    | cons r rs ih => exact fun es h => ih _ (putE_nodup h _ _)
  exact aux rs [] List.nodup_nil
theorem tab_len (rs : Lg) : (tab rs).length ≤ rs.length := by
  have aux : ∀ (rs es : Lg), (rs.foldl (fun es r => addT es r.1 r.2) es).length ≤ es.length + rs.length := by
    intro rs
    induction rs with
    | nil => exact fun _ => Nat.le_refl _
    | cons r rs ih =>
      intro es
      have h1 := ih (addT es r.1 r.2)
      have h2 : (addT es r.1 r.2).length ≤ es.length + 1 := putE_len _ _ _
      rw [List.foldl_cons, List.length_cons]
      omega
  have := aux rs []
  rw [List.length_nil, Nat.zero_add] at this
  exact this
theorem tab_keys {rs : Lg} {l : Lot} : l ∈ (tab rs).map (·.1) ↔ l ∈ rs.map (·.1) := by
  have aux : ∀ (rs es : Lg), l ∈ (rs.foldl (fun es r => addT es r.1 r.2) es).map (·.1) ↔ l ∈ es.map (·.1) ∨ l ∈ rs.map (·.1) := by
    intro rs
    induction rs with
    | nil => intro es; simp
    | cons r rs ih =>
      intro es
      rw [List.foldl_cons, ih]
      unfold addT
      rw [putE_keys, List.map_cons, List.mem_cons]
      split
      · rename_i h
        constructor
        · rintro (z | z)
          · exact .inl z
          · exact .inr (.inr z)
        · rintro (z | z | z)
          · exact .inl z
          · exact .inl (z ▸ h)
          · exact .inr z
      · rw [List.mem_append, List.mem_singleton, or_assoc]
  have := aux rs []
  simpa [tab] using this
theorem putE_del {es : Lg} (nd : (es.map (·.1)).Nodup) (l : Lot) (p : Lot → Bool) : sumIf p es = sumIf p (delE es l) + if p l then (getE es l).getD 0 else 0 := by
  induction es with
  | nil => unfold delE getE; simp [sumIf]
  | cons r es ih =>
    rw [List.map_cons, List.nodup_cons] at nd
    by_cases h : r.1 = l
    · have d : delE (r :: es) l = es := by
        unfold delE
        rw [List.filter_cons_of_neg (by simpa using h), List.filter_eq_self]
        intro e he
        have : e.1 ≠ l := fun q => nd.1 (by rw [h, ← q]; exact List.mem_map_of_mem (f := Prod.fst) he)
        simpa using this
      have g : getE (r :: es) l = some r.2 := by
        unfold getE
        rw [List.find?_cons_of_pos (by simpa using h)]; rfl
      rw [d, g, sumIf_cons, h]
      show _ = _ + if p l = true then r.2 else 0
      omega
    · have d : delE (r :: es) l = r :: delE es l := by
        unfold delE
        rw [List.filter_cons_of_pos (by simpa using h)]
      have g : getE (r :: es) l = getE es l := by
        unfold getE
        rw [List.find?_cons_of_neg (by simpa using h)]
      rw [d, g, sumIf_cons, sumIf_cons, ih nd.2]
      omega
theorem addT_sum {es : Lg} (nd : (es.map (·.1)).Nodup) (l : Lot) (c : Int) (p : Lot → Bool) : sumIf p (addT es l c) = sumIf p es + if p l then c else 0 := by
  unfold addT
  rw [sumIf_perm (putE_perm nd l _), sumIf_app, putE_del nd l p, sumIf_cons, sumIf_nil]
  split <;> omega
theorem tab_sum (p : Lot → Bool) (rs : Lg) : sumIf p (tab rs) = sumIf p rs := by
  have aux : ∀ (rs es : Lg), (es.map (·.1)).Nodup → sumIf p (rs.foldl (fun es r => addT es r.1 r.2) es) = sumIf p es + sumIf p rs := by
    intro rs
    induction rs with
    | nil => intro es _; rw [List.foldl_nil, sumIf_nil]; omega
    | cons r rs ih =>
      intro es nd
      rw [List.foldl_cons, ih (addT es r.1 r.2) (putE_nodup nd _ _), addT_sum nd, sumIf_cons]
      omega
  have := aux rs [] List.nodup_nil
  rw [sumIf_nil, Int.zero_add] at this
  exact this
theorem sum_one {es : Lg} (nd : (es.map (·.1)).Nodup) (l : Lot) : sumIf (fun m => decide (m = l)) es = (getE es l).getD 0 := by
  rw [putE_del nd l]
  have : sumIf (fun m => decide (m = l)) (delE es l) = 0 := by
    have h : ∀ r ∈ delE es l, decide (r.1 = l) = false := fun r hr => by
      have := (List.mem_filter.mp hr).2
      simpa using this
    rw [sumIf_congr (q := fun _ => false) h]
    generalize delE es l = ys
    induction ys with
    | nil => rfl
    | cons y ys ih => rw [sumIf_cons, ih]; rfl
  rw [this, Int.zero_add, if_pos (by simp)]
/-- tables with the same lots and the same sums are one, sorted -/
theorem led_ext {es fs : Lg} (n1 : (es.map (·.1)).Nodup) (n2 : (fs.map (·.1)).Nodup) (hk : ∀ l, l ∈ es.map (·.1) ↔ l ∈ fs.map (·.1)) (hs : ∀ l, sumIf (fun m => decide (m = l)) es = sumIf (fun m => decide (m = l)) fs) : srtL es = srtL fs := by
  have hR : DOrd encRow ltRow 2 := inferInstance
  refine hR.srt_eq ?_
  have nd : ∀ {es : Lg}, (es.map (·.1)).Nodup → es.Nodup := fun h => (List.pairwise_map.mp h).imp fun q e => q (by rw [e])
  refine (List.perm_ext_iff_of_nodup (nd n1) (nd n2)).mpr fun r => ?_
  have key : ∀ {es fs : Lg}, (es.map (·.1)).Nodup → (fs.map (·.1)).Nodup → (∀ l, l ∈ es.map (·.1) ↔ l ∈ fs.map (·.1)) → (∀ l, sumIf (fun m => decide (m = l)) es = sumIf (fun m => decide (m = l)) fs) → r ∈ es → r ∈ fs := fun {es fs} n1 n2 hk hs h => by
    have g1 := getE_of n1 (show (r.1, r.2) ∈ es from h)
    have m2 : r.1 ∈ fs.map (·.1) := (hk r.1).mp (List.mem_map_of_mem (f := Prod.fst) h)
    have g2 : (getE fs r.1).isSome = true := getE_iff.mpr m2
    obtain ⟨c, e⟩ := Option.isSome_iff_exists.mp g2
    have := hs r.1
    rw [sum_one n1, sum_one n2, g1, e] at this
    have e2 : r.2 = c := this
    have := getE_mem e
    rw [← e2] at this
    exact this
  exact ⟨key n1 n2 hk hs, key n2 n1 (fun l => (hk l).symm) fun l => (hs l).symm⟩
theorem tab_ext {rs ts : Lg} (hk : ∀ l, l ∈ rs.map (·.1) ↔ l ∈ ts.map (·.1)) (hs : ∀ l, sumIf (fun m => decide (m = l)) rs = sumIf (fun m => decide (m = l)) ts) : srtL (tab rs) = srtL (tab ts) :=
  led_ext (tab_nodup _) (tab_nodup _) (fun l => by rw [tab_keys, tab_keys]; exact hk l) fun l => by rw [tab_sum, tab_sum]; exact hs l
/-- a lot: strictly rising -/
def LotOk (l : Lot) : Prop := l.Pairwise fun a b => ltS a b = true
theorem LotOk.nodup {l : Lot} (h : LotOk l) : l.Nodup := h.imp fun {a b} q e => by
  subst e
  have hS : DOrd D.str ltS 0 := inferInstance
  rw [hS.irr] at q; cases q
theorem onceL_id {α : Type} [DecidableEq α] {xs : List α} (h : xs.Nodup) : onceL xs = xs := by
  have aux : ∀ (xs acc : List α), (acc ++ xs).Nodup → xs.foldl (fun acc k => addK k acc) acc = acc ++ xs := by
    intro xs
    induction xs with
    | nil => intro acc _; rw [List.append_nil]; rfl
    | cons x xs ih =>
      intro acc h
      have hx : x ∉ acc := fun z => by
        rw [List.nodup_append] at h
        exact h.2.2 x z x List.mem_cons_self rfl
      have ha : addK x acc = acc ++ [x] := by unfold addK; rw [if_neg hx]
      rw [List.foldl_cons, ha, ih _ (by rw [List.append_assoc]; exact h), List.append_assoc]; rfl
  have := aux xs [] (by rw [List.nil_append]; exact h)
  rw [List.nil_append] at this
  exact this
theorem LotOk.norm {l : Lot} (h : LotOk l) : srt ltS (onceL l) = l := by
  have hS : DOrd D.str ltS 0 := inferInstance
  rw [onceL_id h.nodup]
  exact hS.srt_id (h.imp fun {a b} q => hS.asym q)
theorem LotOk.filter {l : Lot} (h : LotOk l) (p : Str → Bool) : LotOk (l.filter p) := List.Pairwise.filter p h
theorem lotOk_srt {l : Lot} (h : l.Nodup) : LotOk (srt ltS l) := (inferInstance : DOrd D.str ltS 0).srt_strict h
theorem mem_putAll {α β γ : Type} [DecidableEq β] (kb : α → β) (vb : α → γ) (xs : List α) (b : β) : (getE (putAll kb vb xs) b).isSome = decide (b ∈ xs.map kb) := by
  have aux : ∀ (xs : List α) (es : List (β × γ)), b ∈ (xs.foldl (fun es x => putE es (kb x) (vb x)) es).map (·.1) ↔ b ∈ es.map (·.1) ∨ b ∈ xs.map kb := by
    intro xs
    induction xs with
    | nil => intro es; simp
    | cons x xs ih =>
      intro es
      rw [List.foldl_cons, ih, putE_keys, List.map_cons, List.mem_cons]
      split
      · rename_i h
        constructor
        · rintro (z | z)
          · exact .inl z
          · exact .inr (.inr z)
        · rintro (z | z | z)
          · exact .inl z
          · exact .inl (z ▸ h)
          · exact .inr z
      · rw [List.mem_append, List.mem_singleton, or_assoc]
  rw [getE_some]
  refine decide_eq_decide.mpr ?_
  have := aux xs []
  show b ∈ (xs.foldl (fun es x => putE es (kb x) (vb x)) []).map (·.1) ↔ _
  rw [this]
  simp
theorem getD_int (o : Option Int) : (o.map D.int).getD (.int 0) = .int (o.getD 0) := by cases o <;> rfl


end K50


namespace K50
open PySem PySem.Spec PyProof.Rows L2 DL
local macro_rules | `(tactic| row_cond dcall) => `(tactic| first
  | ((with_reducible refine' we_callS (x := "make_lot") ?c ?x ?j ?g ?d ?e ?_); (case c => assumption); (case x => assumption); (case j => first | decide | exact Nat.le_refl _ | omega); (case g => assumption); (case d => decide); (case e => rfl))
  | ((with_reducible refine' we_call (x := "make_ledger") ?c ?x ?j ?g ?d ?e ?p ?_); (case c => assumption); (case x => assumption); (case j => first | decide | exact Nat.le_refl _ | omega); (case g => assumption); (case d => decide); (case e => rfl); (case p => rfl))
  | ((with_reducible refine' we_call (x := "freed") ?c ?x ?j ?g ?d ?e ?p ?_); (case c => assumption); (case x => assumption); (case j => first | decide | exact Nat.le_refl _ | omega); (case g => assumption); (case d => decide); (case e => rfl); (case p => rfl))
  | ((with_reducible refine' we_call (x := "reduced") ?c ?x ?j ?g ?d ?e ?p ?_); (case c => assumption); (case x => assumption); (case j => first | decide | exact Nat.le_refl _ | omega); (case g => assumption); (case d => decide); (case e => rfl); (case p => rfl))
  | ((with_reducible refine' we_call (x := "_law_mix") ?c ?x ?j ?g ?d ?e ?p ?_); (case c => assumption); (case x => assumption); (case j => first | decide | exact Nat.le_refl _ | omega); (case g => assumption); (case d => decide); (case e => rfl); (case p => rfl))
  | ((with_reducible refine' we_call (x := "_law_start") ?c ?x ?j ?g ?d ?e ?p ?_); (case c => assumption); (case x => assumption); (case j => first | decide | exact Nat.le_refl _ | omega); (case g => assumption); (case d => decide); (case e => rfl); (case p => rfl))
  | ((with_reducible refine' we_call1 (x := "_law_next") ?c ?x ?j ?g ?d ?e ?p ?_); (case c => assumption); (case x => assumption); (case j => first | decide | exact Nat.le_refl _ | omega); (case g => assumption); (case d => decide); (case e => rfl); (case p => rfl))
  | ((with_reducible refine' we_call (x := "_law_is") ?c ?x ?j ?g ?d ?e ?p ?_); (case c => assumption); (case x => assumption); (case j => first | decide | exact Nat.le_refl _ | omega); (case g => assumption); (case d => decide); (case e => rfl); (case p => rfl))
  | ((with_reducible refine' we_call1 (x := "_law_names") ?c ?x ?j ?g ?d ?e ?p ?_); (case c => assumption); (case x => assumption); (case j => first | decide | exact Nat.le_refl _ | omega); (case g => assumption); (case d => decide); (case e => rfl); (case p => rfl))
  | ((with_reducible refine' we_call1 (x := "_law_lot") ?c ?x ?j ?g ?d ?e ?p ?_); (case c => assumption); (case x => assumption); (case j => first | decide | exact Nat.le_refl _ | omega); (case g => assumption); (case d => decide); (case e => rfl); (case p => rfl))
  | ((with_reducible refine' we_call1 (x := "_law_ledger") ?c ?x ?j ?g ?d ?e ?p ?_); (case c => assumption); (case x => assumption); (case j => first | decide | exact Nat.le_refl _ | omega); (case g => assumption); (case d => decide); (case e => rfl); (case p => rfl))
  | ((with_reducible refine' we_call1 (x := "_law_turned") ?c ?x ?j ?g ?d ?e ?p ?_); (case c => assumption); (case x => assumption); (case j => first | decide | exact Nat.le_refl _ | omega); (case g => assumption); (case d => decide); (case e => rfl); (case p => rfl))
  | ((with_reducible refine' we_call (x := "_law_reduced") ?c ?x ?j ?g ?d ?e ?p ?_); (case c => assumption); (case x => assumption); (case j => first | decide | exact Nat.le_refl _ | omega); (case g => assumption); (case d => decide); (case e => rfl); (case p => rfl))
  | ((with_reducible refine' we_call (x := "_law_freed") ?c ?x ?j ?g ?d ?e ?p ?_); (case c => assumption); (case x => assumption); (case j => first | decide | exact Nat.le_refl _ | omega); (case g => assumption); (case d => decide); (case e => rfl); (case p => rfl))
  | ((with_reducible refine' we_call1 (x := "_law_lots") ?c ?x ?j ?g ?d ?e ?p ?_); (case c => assumption); (case x => assumption); (case j => first | decide | exact Nat.le_refl _ | omega); (case g => assumption); (case d => decide); (case e => rfl); (case p => rfl))
  | ((with_reducible refine' we_call (x := "law") ?c ?x ?j ?g ?d ?e ?p ?_); (case c => assumption); (case x => assumption); (case j => first | decide | exact Nat.le_refl _ | omega); (case g => assumption); (case d => decide); (case e => rfl); (case p => rfl)))
/-! the steps: one line a construct -/
local macro_rules | `(tactic| row_cond dlen) => `(tactic| (intro ds M R Q h; first | (obtain ⟨h1, _⟩ := h; subst h1; rfl) | (obtain ⟨_, h1, _⟩ := h; subst h1; rfl) | (obtain ⟨_, _, h1, _⟩ := h; subst h1; rfl) | (obtain ⟨_, _, _, h1, _⟩ := h; subst h1; rfl) | (obtain ⟨_, _, _, _, h1, _⟩ := h; subst h1; rfl) | (obtain ⟨_, _, _, _, _, h1, _⟩ := h; subst h1; rfl) | (obtain ⟨_, _, _, _, _, _, h1, _⟩ := h; subst h1; rfl) | (obtain ⟨_, _, _, _, _, _, _, h1, _⟩ := h; subst h1; rfl) | (obtain ⟨_, _, _, _, _, _, _, _, h1, _⟩ := h; subst h1; rfl) | (obtain ⟨_, _, _, _, _, _, _, _, _, h1, _⟩ := h; subst h1; rfl) | (obtain ⟨_, _, _, _, _, _, _, _, _, _, h1, _⟩ := h; subst h1; rfl) | (obtain ⟨_, _, _, _, _, _, _, _, _, _, _, h1, _⟩ := h; subst h1; rfl) | (obtain ⟨_, _, _, _, _, _, _, _, _, _, _, _, h1, _⟩ := h; subst h1; rfl)))
local macro_rules | `(tactic| row_cond dsz) => `(tactic| first | exact Nat.le_of_ble_eq_true rfl | assumption | (simp only [List.length_map, List.length_cons, List.length_append, List.length_nil, List.length_reverse, List.length_take, List.length_drop, PySem.sizeLine]; omega))
/- expressions -/
local macro_rules | `(tactic| row_cond dE) => `(tactic| first
  | ((with_reducible refine' we_name ?n ?e ?_); (case n => assumption); (case e => rfl))
  | (with_reducible refine we_int ?_)
  | (with_reducible refine we_bl ?_)
  | (with_reducible refine we_str ?_)
  | (with_reducible refine we_non ?_)
  | (with_reducible refine we_bin ?_)
  | ((with_reducible refine' we_cmp ?n ?_); (case n => rfl))
  | (with_reducible refine we_slice ?_)
  | (with_reducible refine we_rev ?_)
  | ((with_reducible refine' we_ix ?n ?_); (case n => exact fun _ _ => rfl))
  | (with_reducible refine we_tupV ?_)
  | (with_reducible refine we_lstV ?_)
  | ((with_reducible refine' we_blt ?b ?n ?m ?_); (case b => assumption); (case n => rfl); (case m => rfl))
  | ((with_reducible refine' we_typ ?b ?n ?m ?_); (case b => assumption); (case n => rfl); (case m => rfl))
  | ((with_reducible refine' we_tyName ?b ?_); (case b => assumption))
  | (with_reducible refine we_one ?_)
  | (with_reducible refine we_and ?_)
  | (with_reducible refine we_or ?_)
  | (with_reducible refine we_not ?_)
  | (with_reducible refine we_ifexp ?_)
  | ((with_reducible refine' we_un ?n ?_); (case n => exact fun z => nomatch z))
  | row_cond dcall
  | ((with_reducible refine we_bm (T := "list") PySem.F.plainAttrs_list PySem.F.slot_list_append PySem.F.type_list_append ?a ?b ?c ?d ?e ?_); (case a => rfl); (case b => rfl); (case c => rfl); (case d => rfl); (case e => rfl))
  | ((with_reducible refine we_bm0 (T := "list") PySem.F.plainAttrs_list PySem.F.slot_list_pop PySem.F.type_list_pop ?a ?b ?_); (case a => rfl); (case b => rfl))
  | ((with_reducible refine we_bm (T := "list") PySem.F.plainAttrs_list PySem.F.slot_list_extend PySem.F.type_list_extend ?a ?b ?c ?d ?e ?_); (case a => rfl); (case b => rfl); (case c => rfl); (case d => rfl); (case e => rfl)))
/- tests -/
local macro_rules | `(tactic| row_cond dT) => `(tactic| first
  | ((with_reducible refine' wt_cmp ?n ?_); (case n => rfl))
  | (with_reducible refine wt_not ?_)
  | (with_reducible refine wt_bool ?_)
  | (with_reducible refine ww_and1 ?_)
  | (with_reducible refine ww_or1 ?_)
  | (with_reducible refine ww_and ?_)
  | (with_reducible refine ww_or ?_)
  | ((with_reducible refine' wt_val ?n ?_); (case n => exact fun _ => rfl)))
/- statements -/
local macro_rules | `(tactic| row_cond dS) => `(tactic| first
  | (with_reducible refine wss_cons ?_)
  | (with_reducible refine wss_nil ?_)
  | ((with_reducible refine' ws_set ?a ?n ?h ?_); (case a => assumption); (case n => assumption); (case h => rfl))
  | ((with_reducible refine' ws_sub ?h ?_); (case h => rfl))
  | ((with_reducible refine' ws_asg ?a ?n ?h ?_); (case a => rfl); (case n => rfl); (case h => rfl))
  | (with_reducible refine ws_if ?_)
  | row_cond dret
  | ((with_reducible refine' ws_expr ?h ?_); (case h => rfl))
  | (with_reducible refine ws_pass ?_)
  | (with_reducible refine ws_break ?_)
  | (with_reducible refine ws_continue ?_)
  | (with_reducible refine ws_retN ?_))
local macro_rules | `(tactic| row_cond dSn) => `(tactic| first
  | (with_reducible refine wss_cons ?_)
  | (with_reducible refine wss_nil ?_)
  | ((with_reducible refine' ws_set ?a ?n ?h ?_); (case a => assumption); (case n => assumption); (case h => rfl))
  | ((with_reducible refine' ws_sub ?h ?_); (case h => rfl))
  | ((with_reducible refine' ws_asg ?a ?n ?h ?_); (case a => rfl); (case n => rfl); (case h => rfl))
  | row_cond dret
  | ((with_reducible refine' ws_expr ?h ?_); (case h => rfl))
  | (with_reducible refine ws_pass ?_)
  | (with_reducible refine ws_break ?_)
  | (with_reducible refine ws_continue ?_)
  | (with_reducible refine ws_retN ?_))
/- arguments, targets, values -/
local macro_rules | `(tactic| row_cond dV) => `(tactic| first
  | (with_reducible refine wa_nil ?_)
  | ((with_reducible refine' wa_cons ?n ?_); (case n => rfl))
  | (with_reducible refine wav_nil ?_)
  | ((with_reducible refine' wav_cons ?n ?_); (case n => rfl))
  | (with_reducible refine put_go ?_)
  | (with_reducible refine fz_lst ?_)
  | (with_reducible refine fz_tup ?_)
  | (with_reducible refine fz_id ?_)
  | (with_reducible refine own0_go ?_)
  | (with_reducible refine own1_go ?_)
  | (with_reducible refine app_go ?_)
  | (with_reducible refine mset_go ?_)
  | ((with_reducible refine' wg_name ?a ?n ?_); (case a => assumption); (case n => assumption))
  | ((with_reducible refine' wg_tup ?a ?n ?h ?_); (case a => assumption); (case n => rfl); (case h => rfl))
  | (with_reducible refine wgs_nil ?_)
  | ((with_reducible refine' wgs_cons ?n ?_); (case n => rfl))
  | (with_reducible refine wpt_none ?_)
  | (with_reducible refine wpt_some ?_)
  | ((with_reducible refine' wset_list ?n ?_); (case n => first | rfl | row_cond dix)))
/- what is walked -/
local macro_rules | `(tactic| row_cond dI) => `(tactic| first
  | ((with_reducible refine' wi_range1 ?a ?b ?c ?_); (case a => exact BltAt.gl (by assumption)); (case b => exact BltAt.mg (by assumption)); (case c => rfl))
  | ((with_reducible refine' wi_range2 ?a ?b ?c ?d ?_); (case a => exact BltAt.gl (by assumption)); (case b => exact BltAt.mg (by assumption)); (case c => rfl); (case d => rfl))
  | (with_reducible refine wi_val ?_)
  | (with_reducible refine wiv_list ?_)
  | (with_reducible refine wiv_tup ?_)
  | (with_reducible refine wiv_seq ?_)
  | ((with_reducible refine' wgc_name ?a ?n ?h ?_); (case a => assumption); (case n => assumption); (case h => decide))
  | ((with_reducible refine' wgc_tup ?a ?n ?h ?_); (case a => assumption); (case n => rfl); (case h => rfl))
  | (with_reducible refine wgcs_nil ?_)
  | ((with_reducible refine' wgcs_cons ?n ?_); (case n => rfl))
  | (with_reducible refine wts_nil ?_)
  | (with_reducible refine wts_one ?_))
/- operations by values -/
local macro_rules | `(tactic| row_cond dO) => `(tactic| first
  | (with_reducible refine wo_add ?_)
  | (with_reducible refine wo_sub ?_)
  | ((with_reducible refine' wo_mulS ?n ?_); (case n => first | exact .inr ⟨by decide, by decide⟩ | exact .inl ⟨by decide, by decide⟩ | exact .inr ⟨by omega, by omega⟩ | exact .inl ⟨by omega, by omega⟩))
  | ((with_reducible refine' wo_fdiv ?n ?m ?_); (case n => first | decide | omega); (case m => first | decide | row_cond dlog))
  | ((with_reducible refine' wo_mod ?n ?_); (case n => first | decide | omega))
  | (with_reducible refine wo_powL ?_)
  | ((with_reducible refine' wo_pow ?n ?_); (case n => exact ⟨by decide, by decide, by decide⟩))
  | (with_reducible refine wo_xor ?_)
  | (with_reducible refine wo_lt ?_)
  | (with_reducible refine wo_le ?_)
  | (with_reducible refine wo_gt ?_)
  | (with_reducible refine wo_ge ?_)
  | (with_reducible refine wo_eqI ?_)
  | (with_reducible refine wo_neI ?_)
  | (with_reducible refine wo_eqS ?_)
  | (with_reducible refine wo_neS ?_)
  | (with_reducible refine wo_isN ?_)
  | (with_reducible refine wo_isnotN ?_)
  | (with_reducible refine wu_neg ?_)
  | (with_reducible refine wc_int ?_)
  | (with_reducible refine wc_intB ?_)
  | (with_reducible refine wc_abs ?_)
  | ((with_reducible refine' wc_max2 ?a ?_); (case a => assumption))
  | ((with_reducible refine' wc_min2 ?a ?_); (case a => assumption))
  | (with_reducible refine wc_list ?_)
  | (with_reducible refine wc_tuple ?_)
  | ((with_reducible refine' wc_lenS ?a ?_); (case a => row_cond dsz))
  | (with_reducible refine wc_lenM ?_)
  | (with_reducible refine wc_len ?_)
  | (with_reducible refine wc_isK ?_)
  | ((with_reducible refine' wc_allM ?a ?_); (case a => assumption))
  | ((with_reducible refine' wc_anyM ?a ?_); (case a => assumption))
  | ((with_reducible refine' wc_sum ?a ?_); (case a => assumption))
  | ((with_reducible refine' wx_list ?n ?_); (case n => row_cond dat))
  | ((with_reducible refine' wx_map ?a ?b ?_); (case a => omega); (case b => omega))
  | ((with_reducible refine' wx_seq ?a ?b ?_); (case a => omega); (case b => omega))
  | ((with_reducible refine' wx_tup ?n ?_); (case n => row_cond dat))
  | (with_reducible refine wsl_listM ?_)
  | (with_reducible refine wsl_list ?_)
  | (with_reducible refine wrev_goM ?_)
  | (with_reducible refine wrev_go ?_)
  | ((with_reducible refine' wo_catM ?n ?_); (case n => row_cond dsz))
  | ((with_reducible refine' wo_cat ?n ?_); (case n => row_cond dsz))
  | ((with_reducible refine' wm_append ?n ?_); (case n => row_cond dsz)))
local macro_rules | `(tactic| row_cond dat) => `(tactic| rfl)
local macro_rules | `(tactic| row_cond dix) => `(tactic| rfl)
local macro_rules | `(tactic| row_cond dlog) => `(tactic| first | decide | exact log_small (by omega) (by omega))
/- what stands between -/
local macro_rules | `(tactic| row_cond dQ) => `(tactic| first
  | (with_reducible refine ⟨_, rfl, ?_⟩)
  | (with_reducible refine br_true ?_)
  | (with_reducible refine br_false ?_)
  | (with_reducible refine rb_true ?_)
  | (with_reducible refine rb_false ?_)
  | ((with_reducible refine' br_dec ?_ ?_) <;> intro _)
  | ((with_reducible refine' br_ndec ?_ ?_) <;> intro _)
  | ((with_reducible refine' rb_dec ?_ ?_) <;> intro _)
  | ((with_reducible refine' rb_ndec ?_ ?_) <;> intro _)
  | (refine br_is rfl ?_)
  | (refine br_isnot rfl ?_)
  | (refine rb_is rfl ?_)
  | (refine rb_isnot rfl ?_)
  | ((with_reducible refine' ⟨⟨?a, ?b⟩, ?_⟩); (case a => omega); (case b => omega))
  | ((with_reducible refine' ⟨⟨?a, ?b, ?c, ?d⟩, ?_⟩); (case a => omega); (case b => omega); (case c => omega); (case d => omega))
  | (with_reducible refine app_go ?_)
  | (with_reducible refine ⟨tym_list, ?_⟩)
  | (with_reducible refine ⟨tym_str, ?_⟩)
  | ((with_reducible refine ⟨?n, ?_⟩); (case n => (show _ ≤ PySem.sizeLine); row_cond dsz))
  | (with_reducible intro _))
local macro_rules | `(tactic| row_cond dstart) => `(tactic| simp only [startD, List.map_cons, List.map_nil, List.length_cons, List.length_nil, List.cons_append, List.nil_append, Nat.zero_add, Nat.reduceAdd, Nat.reduceSub, List.replicate_succ, List.replicate_zero])
local macro_rules | `(tactic| row_cond d) => `(tactic| first | row_cond dE | row_cond dV | row_cond dO | row_cond dT | row_cond dS | row_cond dI | row_cond dmore | row_cond dspec | row_cond dQ)
local macro_rules | `(tactic| row_cond dn) => `(tactic| first | row_cond dE | row_cond dV | row_cond dO | row_cond dT | row_cond dSn | row_cond dI | row_cond dmore | row_cond dspec | row_cond dQ)
local macro_rules | `(tactic| row_cond gon) => `(tactic| repeat' (row_cond dn))
local macro_rules | `(tactic| row_cond go) => `(tactic| repeat' (row_cond d))
/- the later parts of the layer -/
local macro_rules | `(tactic| row_cond dE) => `(tactic| first
  | ((with_reducible refine' we_sortedSet ?a ?b ?c ?d ?e ?_); (case a => assumption); (case b => assumption); (case c => assumption); (case d => rfl); (case e => rfl))
  | ((with_reducible refine' we_get2 ?a ?b ?_); (case a => assumption); (case b => exact ⟨rfl, rfl, rfl, rfl⟩))
  | ((with_reducible refine' we_get1 ?a ?b ?_); (case a => assumption); (case b => exact ⟨rfl, rfl, rfl, rfl⟩))
  | ((with_reducible refine' we_pop1 ?b ?_); (case b => exact ⟨rfl, rfl, rfl, rfl⟩)))
local macro_rules | `(tactic| row_cond dO) => `(tactic| first
  | ((with_reducible refine' wc_sorted ?a ?b ?c ?_); (case a => assumption); (case b => decide); (case c => first | exact fun _ _ => trivial | assumption))
  | ((with_reducible refine' wsorted_go ?a ?_); (case a => first | assumption | omega))
  | ((with_reducible refine' wo_inD ?a ?b ?_); (case a => assumption); (case b => decide))
  | ((with_reducible refine' wo_ninD ?a ?b ?_); (case a => assumption); (case b => decide))
  | (with_reducible refine getD_K ?_)
  | (with_reducible refine getD_T ?_)
  | ((with_reducible refine' wsl_txt ?a ?_); (case a => row_cond dsz))
  | ((with_reducible refine' wx_strN ?a ?b ?c ?_); (case a => row_cond dsz); (case b => omega); (case c => first | omega | (simp only [PySem.Str.length]; omega)))
  | (with_reducible refine ⟨isDD_K, ?_⟩)
  | (with_reducible refine ⟨isDD_T, ?_⟩))
local macro_rules | `(tactic| row_cond dO) => `(tactic| first
  | ((with_reducible refine' wm_appendM ?n ?_); (case n => row_cond dsz)))
local macro_rules | `(tactic| row_cond dE) => `(tactic| ((with_reducible refine' we_con ?c ?_); (case c => assumption)))
local macro_rules | `(tactic| row_cond dV) => `(tactic| first
  | (with_reducible refine wk_nil ?_)
  | (with_reducible refine wk_cons ?_)
  | (with_reducible refine ⟨rfl, rfl, ?_⟩))
local macro_rules | `(tactic| row_cond dI) => `(tactic| ((with_reducible refine' wi_range3 ?a ?b ?c ?d ?_); (case a => exact BltAt.gl (by assumption)); (case b => exact BltAt.mg (by assumption)); (case c => rfl); (case d => rfl)))
local macro_rules | `(tactic| row_cond dO) => `(tactic| first
  | ((with_reducible refine' wc_lenS ?a ?_); (case a => row_cond dsz)))
local macro_rules | `(tactic| row_cond dO) => `(tactic| first
  | ((with_reducible refine' wo_addS ?a ?_); (case a => row_cond dsz)))
local macro_rules | `(tactic| row_cond dO) => `(tactic| first
  | ((with_reducible refine' wo_addS2 ?a ?_); (case a => first | decide | omega))
  | ((with_reducible refine' wsl_txt2 ?a ?_); (case a => first | decide | omega))
  | ((with_reducible refine' wc_lenS2 ?a ?_); (case a => first | decide | omega)))
local macro_rules | `(tactic| row_cond dE) => `(tactic| first
  | ((with_reducible refine we_bm (T := "str") PySem.F.plainAttrs_str PySem.F.slot_str_index PySem.F.type_str_index ?a ?b ?c ?d ?e ?_); (case a => rfl); (case b => rfl); (case c => rfl); (case d => rfl); (case e => rfl))
  | ((with_reducible refine we_bm (T := "str") PySem.F.plainAttrs_str PySem.F.slot_str_join PySem.F.type_str_join ?a ?b ?c ?d ?e ?_); (case a => rfl); (case b => rfl); (case c => rfl); (case d => rfl); (case e => rfl))
  | ((with_reducible refine we_bm (T := "str") PySem.F.plainAttrs_str PySem.F.slot_str_startswith PySem.F.type_str_startswith ?a ?b ?c ?d ?e ?_); (case a => rfl); (case b => rfl); (case c => rfl); (case d => rfl); (case e => rfl)))
local macro_rules | `(tactic| row_cond dO) => `(tactic| first
  | (with_reducible refine wm_starts ?_))
local macro_rules | `(tactic| row_cond dret) => `(tactic| (with_reducible refine ws_ret ?_))
local macro_rules | `(tactic| row_cond dO) => `(tactic| first
  | ((with_reducible refine' wx_asK ?a ?b ?_); (case a => assumption); (case b => assumption))
  | ((with_reducible refine' wo_inAsK ?a ?_); (case a => assumption))
  | ((with_reducible refine' wo_ninAsK ?a ?_); (case a => assumption))
  | ((with_reducible refine' wset_asK ?a ?b ?_); (case a => assumption); (case b => row_cond dsz))
  | (with_reducible refine getD_asK ?_)
  | ((with_reducible refine' popD_asK ?b ?_); (case b => assumption))
  | ((with_reducible refine' wx_asT ?a ?b ?_); (case a => assumption); (case b => assumption))
  | ((with_reducible refine' wo_inAsT ?a ?_); (case a => assumption))
  | ((with_reducible refine' wo_ninAsT ?a ?_); (case a => assumption))
  | ((with_reducible refine' wset_asT ?a ?b ?_); (case a => assumption); (case b => row_cond dsz))
  | (with_reducible refine getD_asT ?_)
  | ((with_reducible refine' wc_sortedAs ?a ?_); (case a => assumption)))
local macro_rules | `(tactic| row_cond dO) => `(tactic| first
  | (with_reducible refine wc_lenAsK ?_)
  | (with_reducible refine wc_lenAsT ?_))
local macro_rules | `(tactic| row_cond dI) => `(tactic| first
  | (with_reducible refine wiv_asK ?_))
local macro_rules | `(tactic| row_cond dV) => `(tactic| (with_reducible refine star_go ?_))
local macro_rules | `(tactic| row_cond dO) => `(tactic| first
  | ((with_reducible refine' wc_sortedAsT ?a ?b ?_); (case a => assumption); (case b => assumption))
  | ((with_reducible refine' wm_insert ?a ?b ?c ?_); (case a => row_cond dsz); (case b => omega); (case c => omega)))
local macro_rules | `(tactic| row_cond dE) => `(tactic| first
  | ((with_reducible refine we_bm (T := "list") PySem.F.plainAttrs_list PySem.F.slot_list_insert PySem.F.type_list_insert ?a ?b ?c ?d ?e ?_); (case a => rfl); (case b => rfl); (case c => rfl); (case d => rfl); (case e => rfl)))

/-! ### the program's ledgers -/
def sp_make_lot : SpD := fun ds M R Q => ∃ (xs : List Str), ds = xs.map D.str ∧ M = [] ∧ xs.length ≤ 4000 ∧ Q (encLot (srt ltS (onceL xs))) []
theorem cal_make_lot {P : Program} {w : World} {K : PySem.W.Frag} {mg : Str → Option Value} {base : Heap} (T : Tx mg) (Da : DefAt K mg "make_lot" s_make_lot)  : CalS P w K mg base (1) "make_lot" sp_make_lot := by
  refine calS (k := 0) Da sc_make_lot (fun _ _ _ _ _ _ => rfl) (fun _ _ _ _ _ _ _ _ => rfl) (fun ds M R Q hS => ?_) (fun X F hX nm ds M R Q hS => ?_)
  rotate_left
  have hst := hX.std
  have n_names : NameAt X 0 "names" := nm.name rfl (.inl rfl) (by decide) (by decide)
  have s_names : StoreAt X 0 "names" := nm.store rfl (.inl rfl)
  have b_tuple : BltAt X "tuple" (.type "tuple") := nm.blt hX rfl T.z_tuple bo_tuple (by decide) (by decide)
  have b_sorted : BltAt X "sorted" (.builtin "sorted") := nm.blt hX rfl T.z_sorted bo_sorted (by decide) (by decide)
  have b_set : BltAt X "set" (.type "set") := nm.blt hX rfl T.z_set bo_set (by decide) (by decide)
  · obtain ⟨xs, rfl, rfl, hz, hq⟩ := hS
    row_cond dstart
    refine wss_cons ?_
    row_cond go
    exact rt0 hq
  · obtain ⟨xs, rfl, rfl, hz, hq⟩ := hS
    rw [List.length_map]; show _ ≤ 16777216; omega
theorem sp_lot_go {xs : List Str} {R : Mem} {Q : D → Mem → Prop} (hz : xs.length ≤ 4000) (q : Q (encLot (srt ltS (onceL xs))) []) : sp_make_lot (xs.map D.str) [] R Q := ⟨xs, rfl, rfl, hz, q⟩
/-- rows as they are handed: lots are lists or tuples of names -/
def RowRep (d : D) (r : Lot × Int) : Prop := d = .tup [.lst (r.1.map D.str), .int r.2] ∨ d = .tup [.tup (r.1.map D.str), .int r.2]
def RowsRep (ds : List D) (rs : Lg) : Prop := ds.length = rs.length ∧ ∀ (i : Nat) d r, ds[i]? = some d → rs[i]? = some r → RowRep d r
/-- what make_ledger tells of rows -/
def mkRows (rs : Lg) : Lg := (rs.map fun r => (srt ltS (onceL r.1), r.2)).filter fun r => decide (0 < r.1.length) && decide (0 < r.2)
theorem mkRows_at {rs : Lg} {i : Nat} {r : Lot × Int} (h : rs[i]? = some r) : mkRows (rs.take (i + 1)) = mkRows (rs.take i) ++ if decide (0 < (srt ltS (onceL r.1)).length) && decide (0 < r.2) then [(srt ltS (onceL r.1), r.2)] else [] := by
  unfold mkRows
  rw [List.take_add_one, h, List.map_append, List.filter_append]
  simp only [Option.toList, List.map_cons, List.map_nil, List.filter_cons, List.filter_nil]
theorem srtL_rows {es : Lg} (nd : (es.map (·.1)).Nodup) : (srt (ltL ltS) (es.map (·.1))).map (fun l => (l, (getE es l).getD 0)) = srtL es := by
  have hE : DOrd encRow ltRow 2 := inferInstance
  have hS : DOrd encLot (ltL ltS) 1 := inferInstance
  refine hE.uniq ?_ ?_ (hE.srt_sorted es)
  · have e1 : ((es.map (·.1)).map fun l => (l, (getE es l).getD 0)) = es := by
      rw [List.map_map]
      refine (List.map_congr_left fun e he => ?_).trans (List.map_id _)
      show (e.1, (getE es e.1).getD 0) = e
      rw [getE_of nd (show (e.1, e.2) ∈ es from he)]; rfl
    have p1 := (srt_perm (lt := ltL ltS) (xs := es.map (·.1))).map fun l => (l, (getE es l).getD 0)
    rw [e1] at p1
    exact p1.trans srt_perm.symm
  · refine (List.pairwise_map).mpr ((hS.srt_strict nd).imp fun {a b} h => ?_)
    show (ltL ltS b a || (!ltL ltS a b && ltI ((getE es b).getD 0) ((getE es a).getD 0))) = false
    rw [hS.asym h, h]; rfl
def sp_make_ledger : SpD := fun ds M R Q => ∃ (d : D) (rows : List D) (rs : Lg), ds = [d] ∧ M = [] ∧ See [] R d (.lst rows) ∧ RowsRep rows rs ∧ rs.length ≤ 1000 ∧ (∀ r ∈ rs, r.1.length ≤ 4000) ∧ ∀ p, Q (.ref p) [(p, .lst ((srtL (tab (mkRows rs))).map encRow))]
local macro_rules | `(tactic| row_cond dspec) => `(tactic| first
  | ((with_reducible refine' sp_law_next_go ?a ?b ?c ?_); (case a => assumption); (case b => first | decide | omega | (split <;> omega)); (case c => first | decide | omega | (split <;> omega)))
  | (with_reducible refine sp_law_mix_go ?_))
local macro_rules | `(tactic| row_cond dmore) => `(tactic| first
  | (with_reducible refine ⟨_, [], rfl, ?_⟩))

local macro_rules | `(tactic| row_cond dspec) => `(tactic| ((with_reducible refine' sp_lot_go ?a ?_); (case a => first | assumption | omega)))
theorem cal_make_ledger {P : Program} {w : World} {K : PySem.W.Frag} {mg : Str → Option Value} {base : Heap} (T : Tx mg) (Da : DefAt K mg "make_ledger" s_make_ledger) (c_make_lot : CalS P w K mg base 1 "make_lot" sp_make_lot) : Cal P w K mg base (2) "make_ledger" sp_make_ledger := by
  refine calD (k := 1) Da sc_make_ledger (fun f fd Fu => Fu.binds fun _ _ _ _ _ _ us hl => match us, hl with | [_], _ => rfl) (by row_cond dlen) (fun X F hX nm ds M R Q hS => ?_)
  have hst := hX.std
  have n_rows : NameAt X 0 "rows" := nm.name rfl (.inl rfl) (by decide) (by decide)
  have s_rows : StoreAt X 0 "rows" := nm.store rfl (.inl rfl)
  have n_counts : NameAt X 1 "counts" := nm.name rfl (.inr rfl) (by decide) (by decide)
  have s_counts : StoreAt X 1 "counts" := nm.store rfl (.inr rfl)
  have n_names : NameAt X 2 "names" := nm.name rfl (.inl rfl) (by decide) (by decide)
  have s_names : StoreAt X 2 "names" := nm.store rfl (.inl rfl)
  have n_count : NameAt X 3 "count" := nm.name rfl (.inl rfl) (by decide) (by decide)
  have s_count : StoreAt X 3 "count" := nm.store rfl (.inl rfl)
  have n_lot : NameAt X 4 "lot" := nm.name rfl (.inl rfl) (by decide) (by decide)
  have s_lot : StoreAt X 4 "lot" := nm.store rfl (.inl rfl)
  have g_make_lot : Gl X "make_lot" := nm.gl rfl
  have b_len : BltAt X "len" (.builtin "len") := nm.blt hX rfl T.z_len bo_len (by decide) (by decide)
  have b_sorted : BltAt X "sorted" (.builtin "sorted") := nm.blt hX rfl T.z_sorted bo_sorted (by decide) (by decide)
  obtain ⟨d, rows, rs, rfl, rfl, hsee, ⟨hl, hr⟩, hz, hz2, hq⟩ := hS
  haveI : SeeL [] R d rows := ⟨hsee⟩
  row_cond dstart
  refine wss_cons ?_
  refine ws_mid (fun Γ => ∃ t, Γ = ⟨[some d, some (.ref t), none, none, none], [(t, .dT (asK gLot D.int []))], R⟩) ?_ ?_
  · row_cond go
    refine we_newT fun t => ?_
    row_cond go
    exact ⟨_, rfl⟩
  rintro Γ ⟨t, rfl⟩
  refine wss_cons ?_
  refine ws_mid (fun Γ => ∃ a b c, Γ = ⟨[some d, some (.ref t), a, b, c], [(t, .dT (asK gLot D.int (tab (mkRows rs))))], R⟩) ?_ ?_
  · refine ws_for hst (fun _ => rfl) ?_
    row_cond go
    refine ⟨fun i Γ => ∃ a b c, Γ = ⟨[some d, some (.ref t), a, b, c], [(t, .dT (asK gLot D.int (tab (mkRows (rs.take i)))))], R⟩, ⟨_, _, _, rfl⟩, ?_, fun i x Γ hx hW => ?_, fun Γ hW => ?_⟩
    · rintro i Γ ⟨a, b, c, rfl⟩
      exact (inferInstance : SeeL _ _ _ _).see
    · obtain ⟨a, b, c, rfl⟩ := hW
      have hi := (List.getElem?_eq_some_iff.mp hx).1
      obtain ⟨r, hrr⟩ : ∃ r, rs[i]? = some r := ⟨_, List.getElem?_eq_getElem (by omega)⟩
      have hm := mkRows_at hrr
      have hrl := hz2 r (List.mem_of_getElem? hrr)
      have hlen : (srt ltS (onceL r.1)).length ≤ 4000 := by rw [srt_len]; exact Nat.le_trans (onceL_len _) hrl
      have htl : (tab (mkRows (rs.take i))).length ≤ 1000 := by
        refine Nat.le_trans (tab_len _) ?_
        unfold mkRows
        refine Nat.le_trans (List.length_filter_le _ _) ?_
        rw [List.length_map, List.length_take]; omega
      have yes : 0 < (srt ltS (onceL r.1)).length → 0 < r.2 → tab (mkRows (rs.take (i + 1))) = addT (tab (mkRows (rs.take i))) (srt ltS (onceL r.1)) r.2 := fun a b => by rw [hm, if_pos (by simp [a, b]), tab_snoc]
      have no1 : ¬ 0 < r.2 → tab (mkRows (rs.take (i + 1))) = tab (mkRows (rs.take i)) := fun a => by rw [hm, if_neg (by simp [a]), List.append_nil]
      have no2 : ¬ 0 < (srt ltS (onceL r.1)).length → tab (mkRows (rs.take (i + 1))) = tab (mkRows (rs.take i)) := fun a => by rw [hm, if_neg (by simp [a]), List.append_nil]
      rcases hr i x r hx hrr with rfl | rfl
      all_goals row_cond go
      · rw [getD_int]
        row_cond go
        exact ⟨_, _, _, by rw [yes (by omega) (by assumption)]; rfl⟩
      · exact ⟨_, _, _, by rw [no1 (by assumption)]⟩
      · exact ⟨_, _, _, by rw [no2 (by omega)]⟩
      · rw [getD_int]
        row_cond go
        exact ⟨_, _, _, by rw [yes (by omega) (by assumption)]; rfl⟩
      · exact ⟨_, _, _, by rw [no1 (by assumption)]⟩
      · exact ⟨_, _, _, by rw [no2 (by omega)]⟩
    · obtain ⟨a, b, c, rfl⟩ := hW
      rw [hl, List.take_length]
      exact ⟨_, _, _, rfl⟩
  rintro Γ ⟨a, b, c, rfl⟩
  have hP : ∀ e ∈ tab (mkRows rs), gLot e.1 ≠ [] := fun e he z => by
    have h1 := tab_keys.mp (List.mem_map_of_mem (f := Prod.fst) he)
    obtain ⟨r, h2, h3⟩ := List.mem_map.mp h1
    have h4 := (List.mem_filter.mp h2).2
    simp only [Bool.and_eq_true, decide_eq_true_eq] at h4
    have h5 : e.1 = [] := List.map_eq_nil_iff.mp z
    rw [h3, h5] at h4
    exact absurd h4.1 (by simp)
  have htl : (tab (mkRows rs)).length ≤ 1000 := by
    refine Nat.le_trans (tab_len _) ?_
    unfold mkRows
    refine Nat.le_trans (List.length_filter_le _ _) ?_
    rw [List.length_map]; exact hz
  have nd := tab_nodup (mkRows rs)
  have hrows := srtL_rows nd
  generalize tab (mkRows rs) = es at *
  row_cond go
  refine we_lc' hst (own := [("lot", 4)]) (nm.blk (by decide +kernel)) (fun _ => rfl) rfl ?_
  row_cond go
  refine lc_map hX (by rw [nm.N]; rfl) (.inl rfl) (fun l => encRow (l, (getE es l).getD 0)) (fun _ _ => (inferInstance : SeeL _ _ _ _).see) (by rw [srt_len, List.length_map]; omega) (fun a j l acc hl => put_go fun X' hb => ?_) (fun a => ?_)
  · obtain ⟨e, he, rfl⟩ := List.mem_map.mp (mem_srt.mp (List.mem_of_getElem? hl))
    have hg : getE es e.1 = some e.2 := getE_of nd he
    have hX_X' := hb.inn hX
    have hst_X' := hX_X'.std
    have n_lot_X' : NameAt X' 4 "lot" := hb.name (by rw [nm.N]; rfl) (by first | exact .inl rfl | exact .inr (.inl rfl) | exact .inr (.inr rfl)) (by decide) (by decide)
    have s_lot_X' : StoreAt X' 4 "lot" := hb.store (by rw [nm.N]; rfl) (by first | exact .inl rfl | exact .inr rfl)
    have n_counts_X' : NameAt X' 1 "counts" := hb.name (by rw [nm.N]; rfl) (by first | exact .inl rfl | exact .inr (.inl rfl) | exact .inr (.inr rfl)) (by decide) (by decide)
    row_cond go
    exact ⟨by rw [hg]; rfl, _, rfl⟩
  · row_cond go
    refine rtR ?_
    rw [← hrows, List.map_map] at hq
    exact hq _

end K50


namespace K50
open PySem PySem.Spec PyProof.Rows L2 DL
local macro_rules | `(tactic| row_cond dcall) => `(tactic| first
  | ((with_reducible refine' we_callS (x := "make_lot") ?c ?x ?j ?g ?d ?e ?_); (case c => assumption); (case x => assumption); (case j => first | decide | exact Nat.le_refl _ | omega); (case g => assumption); (case d => decide); (case e => rfl))
  | ((with_reducible refine' we_call (x := "make_ledger") ?c ?x ?j ?g ?d ?e ?p ?_); (case c => assumption); (case x => assumption); (case j => first | decide | exact Nat.le_refl _ | omega); (case g => assumption); (case d => decide); (case e => rfl); (case p => rfl))
  | ((with_reducible refine' we_call (x := "freed") ?c ?x ?j ?g ?d ?e ?p ?_); (case c => assumption); (case x => assumption); (case j => first | decide | exact Nat.le_refl _ | omega); (case g => assumption); (case d => decide); (case e => rfl); (case p => rfl))
  | ((with_reducible refine' we_call (x := "reduced") ?c ?x ?j ?g ?d ?e ?p ?_); (case c => assumption); (case x => assumption); (case j => first | decide | exact Nat.le_refl _ | omega); (case g => assumption); (case d => decide); (case e => rfl); (case p => rfl))
  | ((with_reducible refine' we_call (x := "_law_mix") ?c ?x ?j ?g ?d ?e ?p ?_); (case c => assumption); (case x => assumption); (case j => first | decide | exact Nat.le_refl _ | omega); (case g => assumption); (case d => decide); (case e => rfl); (case p => rfl))
  | ((with_reducible refine' we_call (x := "_law_start") ?c ?x ?j ?g ?d ?e ?p ?_); (case c => assumption); (case x => assumption); (case j => first | decide | exact Nat.le_refl _ | omega); (case g => assumption); (case d => decide); (case e => rfl); (case p => rfl))
  | ((with_reducible refine' we_call1 (x := "_law_next") ?c ?x ?j ?g ?d ?e ?p ?_); (case c => assumption); (case x => assumption); (case j => first | decide | exact Nat.le_refl _ | omega); (case g => assumption); (case d => decide); (case e => rfl); (case p => rfl))
  | ((with_reducible refine' we_call (x := "_law_is") ?c ?x ?j ?g ?d ?e ?p ?_); (case c => assumption); (case x => assumption); (case j => first | decide | exact Nat.le_refl _ | omega); (case g => assumption); (case d => decide); (case e => rfl); (case p => rfl))
  | ((with_reducible refine' we_call1 (x := "_law_names") ?c ?x ?j ?g ?d ?e ?p ?_); (case c => assumption); (case x => assumption); (case j => first | decide | exact Nat.le_refl _ | omega); (case g => assumption); (case d => decide); (case e => rfl); (case p => rfl))
  | ((with_reducible refine' we_call1 (x := "_law_lot") ?c ?x ?j ?g ?d ?e ?p ?_); (case c => assumption); (case x => assumption); (case j => first | decide | exact Nat.le_refl _ | omega); (case g => assumption); (case d => decide); (case e => rfl); (case p => rfl))
  | ((with_reducible refine' we_call1 (x := "_law_ledger") ?c ?x ?j ?g ?d ?e ?p ?_); (case c => assumption); (case x => assumption); (case j => first | decide | exact Nat.le_refl _ | omega); (case g => assumption); (case d => decide); (case e => rfl); (case p => rfl))
  | ((with_reducible refine' we_call1 (x := "_law_turned") ?c ?x ?j ?g ?d ?e ?p ?_); (case c => assumption); (case x => assumption); (case j => first | decide | exact Nat.le_refl _ | omega); (case g => assumption); (case d => decide); (case e => rfl); (case p => rfl))
  | ((with_reducible refine' we_call (x := "_law_reduced") ?c ?x ?j ?g ?d ?e ?p ?_); (case c => assumption); (case x => assumption); (case j => first | decide | exact Nat.le_refl _ | omega); (case g => assumption); (case d => decide); (case e => rfl); (case p => rfl))
  | ((with_reducible refine' we_call (x := "_law_freed") ?c ?x ?j ?g ?d ?e ?p ?_); (case c => assumption); (case x => assumption); (case j => first | decide | exact Nat.le_refl _ | omega); (case g => assumption); (case d => decide); (case e => rfl); (case p => rfl))
  | ((with_reducible refine' we_call1 (x := "_law_lots") ?c ?x ?j ?g ?d ?e ?p ?_); (case c => assumption); (case x => assumption); (case j => first | decide | exact Nat.le_refl _ | omega); (case g => assumption); (case d => decide); (case e => rfl); (case p => rfl))
  | ((with_reducible refine' we_call (x := "law") ?c ?x ?j ?g ?d ?e ?p ?_); (case c => assumption); (case x => assumption); (case j => first | decide | exact Nat.le_refl _ | omega); (case g => assumption); (case d => decide); (case e => rfl); (case p => rfl)))
/-! the steps: one line a construct -/
local macro_rules | `(tactic| row_cond dlen) => `(tactic| (intro ds M R Q h; first | (obtain ⟨h1, _⟩ := h; subst h1; rfl) | (obtain ⟨_, h1, _⟩ := h; subst h1; rfl) | (obtain ⟨_, _, h1, _⟩ := h; subst h1; rfl) | (obtain ⟨_, _, _, h1, _⟩ := h; subst h1; rfl) | (obtain ⟨_, _, _, _, h1, _⟩ := h; subst h1; rfl) | (obtain ⟨_, _, _, _, _, h1, _⟩ := h; subst h1; rfl) | (obtain ⟨_, _, _, _, _, _, h1, _⟩ := h; subst h1; rfl) | (obtain ⟨_, _, _, _, _, _, _, h1, _⟩ := h; subst h1; rfl) | (obtain ⟨_, _, _, _, _, _, _, _, h1, _⟩ := h; subst h1; rfl) | (obtain ⟨_, _, _, _, _, _, _, _, _, h1, _⟩ := h; subst h1; rfl) | (obtain ⟨_, _, _, _, _, _, _, _, _, _, h1, _⟩ := h; subst h1; rfl) | (obtain ⟨_, _, _, _, _, _, _, _, _, _, _, h1, _⟩ := h; subst h1; rfl) | (obtain ⟨_, _, _, _, _, _, _, _, _, _, _, _, h1, _⟩ := h; subst h1; rfl)))
local macro_rules | `(tactic| row_cond dsz) => `(tactic| first | exact Nat.le_of_ble_eq_true rfl | assumption | (simp only [List.length_map, List.length_cons, List.length_append, List.length_nil, List.length_reverse, List.length_take, List.length_drop, PySem.sizeLine]; omega))
/- expressions -/
local macro_rules | `(tactic| row_cond dE) => `(tactic| first
  | ((with_reducible refine' we_name ?n ?e ?_); (case n => assumption); (case e => rfl))
  | (with_reducible refine we_int ?_)
  | (with_reducible refine we_bl ?_)
  | (with_reducible refine we_str ?_)
  | (with_reducible refine we_non ?_)
  | (with_reducible refine we_bin ?_)
  | ((with_reducible refine' we_cmp ?n ?_); (case n => rfl))
  | (with_reducible refine we_slice ?_)
  | (with_reducible refine we_rev ?_)
  | ((with_reducible refine' we_ix ?n ?_); (case n => exact fun _ _ => rfl))
  | (with_reducible refine we_tupV ?_)
  | (with_reducible refine we_lstV ?_)
  | ((with_reducible refine' we_blt ?b ?n ?m ?_); (case b => assumption); (case n => rfl); (case m => rfl))
  | ((with_reducible refine' we_typ ?b ?n ?m ?_); (case b => assumption); (case n => rfl); (case m => rfl))
  | ((with_reducible refine' we_tyName ?b ?_); (case b => assumption))
  | (with_reducible refine we_one ?_)
  | (with_reducible refine we_and ?_)
  | (with_reducible refine we_or ?_)
  | (with_reducible refine we_not ?_)
  | (with_reducible refine we_ifexp ?_)
  | ((with_reducible refine' we_un ?n ?_); (case n => exact fun z => nomatch z))
  | row_cond dcall
  | ((with_reducible refine we_bm (T := "list") PySem.F.plainAttrs_list PySem.F.slot_list_append PySem.F.type_list_append ?a ?b ?c ?d ?e ?_); (case a => rfl); (case b => rfl); (case c => rfl); (case d => rfl); (case e => rfl))
  | ((with_reducible refine we_bm0 (T := "list") PySem.F.plainAttrs_list PySem.F.slot_list_pop PySem.F.type_list_pop ?a ?b ?_); (case a => rfl); (case b => rfl))
  | ((with_reducible refine we_bm (T := "list") PySem.F.plainAttrs_list PySem.F.slot_list_extend PySem.F.type_list_extend ?a ?b ?c ?d ?e ?_); (case a => rfl); (case b => rfl); (case c => rfl); (case d => rfl); (case e => rfl)))
/- tests -/
local macro_rules | `(tactic| row_cond dT) => `(tactic| first
  | ((with_reducible refine' wt_cmp ?n ?_); (case n => rfl))
  | (with_reducible refine wt_not ?_)
  | (with_reducible refine wt_bool ?_)
  | (with_reducible refine ww_and1 ?_)
  | (with_reducible refine ww_or1 ?_)
  | (with_reducible refine ww_and ?_)
  | (with_reducible refine ww_or ?_)
  | ((with_reducible refine' wt_val ?n ?_); (case n => exact fun _ => rfl)))
/- statements -/
local macro_rules | `(tactic| row_cond dS) => `(tactic| first
  | (with_reducible refine wss_cons ?_)
  | (with_reducible refine wss_nil ?_)
  | ((with_reducible refine' ws_set ?a ?n ?h ?_); (case a => assumption); (case n => assumption); (case h => rfl))
  | ((with_reducible refine' ws_sub ?h ?_); (case h => rfl))
  | ((with_reducible refine' ws_asg ?a ?n ?h ?_); (case a => rfl); (case n => rfl); (case h => rfl))
  | (with_reducible refine ws_if ?_)
  | row_cond dret
  | ((with_reducible refine' ws_expr ?h ?_); (case h => rfl))
  | (with_reducible refine ws_pass ?_)
  | (with_reducible refine ws_break ?_)
  | (with_reducible refine ws_continue ?_)
  | (with_reducible refine ws_retN ?_))
local macro_rules | `(tactic| row_cond dSn) => `(tactic| first
  | (with_reducible refine wss_cons ?_)
  | (with_reducible refine wss_nil ?_)
  | ((with_reducible refine' ws_set ?a ?n ?h ?_); (case a => assumption); (case n => assumption); (case h => rfl))
  | ((with_reducible refine' ws_sub ?h ?_); (case h => rfl))
  | ((with_reducible refine' ws_asg ?a ?n ?h ?_); (case a => rfl); (case n => rfl); (case h => rfl))
  | row_cond dret
  | ((with_reducible refine' ws_expr ?h ?_); (case h => rfl))
  | (with_reducible refine ws_pass ?_)
  | (with_reducible refine ws_break ?_)
  | (with_reducible refine ws_continue ?_)
  | (with_reducible refine ws_retN ?_))
/- arguments, targets, values -/
local macro_rules | `(tactic| row_cond dV) => `(tactic| first
  | (with_reducible refine wa_nil ?_)
  | ((with_reducible refine' wa_cons ?n ?_); (case n => rfl))
  | (with_reducible refine wav_nil ?_)
  | ((with_reducible refine' wav_cons ?n ?_); (case n => rfl))
  | (with_reducible refine put_go ?_)
  | (with_reducible refine fz_lst ?_)
  | (with_reducible refine fz_tup ?_)
  | (with_reducible refine fz_id ?_)
  | (with_reducible refine own0_go ?_)
  | (with_reducible refine own1_go ?_)
  | (with_reducible refine app_go ?_)
  | (with_reducible refine mset_go ?_)
  | ((with_reducible refine' wg_name ?a ?n ?_); (case a => assumption); (case n => assumption))
  | ((with_reducible refine' wg_tup ?a ?n ?h ?_); (case a => assumption); (case n => rfl); (case h => rfl))
  | (with_reducible refine wgs_nil ?_)
  | ((with_reducible refine' wgs_cons ?n ?_); (case n => rfl))
  | (with_reducible refine wpt_none ?_)
  | (with_reducible refine wpt_some ?_)
  | ((with_reducible refine' wset_list ?n ?_); (case n => first | rfl | row_cond dix)))
/- what is walked -/
local macro_rules | `(tactic| row_cond dI) => `(tactic| first
  | ((with_reducible refine' wi_range1 ?a ?b ?c ?_); (case a => exact BltAt.gl (by assumption)); (case b => exact BltAt.mg (by assumption)); (case c => rfl))
  | ((with_reducible refine' wi_range2 ?a ?b ?c ?d ?_); (case a => exact BltAt.gl (by assumption)); (case b => exact BltAt.mg (by assumption)); (case c => rfl); (case d => rfl))
  | (with_reducible refine wi_val ?_)
  | (with_reducible refine wiv_list ?_)
  | (with_reducible refine wiv_tup ?_)
  | (with_reducible refine wiv_seq ?_)
  | ((with_reducible refine' wgc_name ?a ?n ?h ?_); (case a => assumption); (case n => assumption); (case h => decide))
  | ((with_reducible refine' wgc_tup ?a ?n ?h ?_); (case a => assumption); (case n => rfl); (case h => rfl))
  | (with_reducible refine wgcs_nil ?_)
  | ((with_reducible refine' wgcs_cons ?n ?_); (case n => rfl))
  | (with_reducible refine wts_nil ?_)
  | (with_reducible refine wts_one ?_))
/- operations by values -/
local macro_rules | `(tactic| row_cond dO) => `(tactic| first
  | (with_reducible refine wo_add ?_)
  | (with_reducible refine wo_sub ?_)
  | ((with_reducible refine' wo_mulS ?n ?_); (case n => first | exact .inr ⟨by decide, by decide⟩ | exact .inl ⟨by decide, by decide⟩ | exact .inr ⟨by omega, by omega⟩ | exact .inl ⟨by omega, by omega⟩))
  | ((with_reducible refine' wo_fdiv ?n ?m ?_); (case n => first | decide | omega); (case m => first | decide | row_cond dlog))
  | ((with_reducible refine' wo_mod ?n ?_); (case n => first | decide | omega))
  | (with_reducible refine wo_powL ?_)
  | ((with_reducible refine' wo_pow ?n ?_); (case n => exact ⟨by decide, by decide, by decide⟩))
  | (with_reducible refine wo_xor ?_)
  | (with_reducible refine wo_lt ?_)
  | (with_reducible refine wo_le ?_)
  | (with_reducible refine wo_gt ?_)
  | (with_reducible refine wo_ge ?_)
  | (with_reducible refine wo_eqI ?_)
  | (with_reducible refine wo_neI ?_)
  | (with_reducible refine wo_eqS ?_)
  | (with_reducible refine wo_neS ?_)
  | (with_reducible refine wo_isN ?_)
  | (with_reducible refine wo_isnotN ?_)
  | (with_reducible refine wu_neg ?_)
  | (with_reducible refine wc_int ?_)
  | (with_reducible refine wc_intB ?_)
  | (with_reducible refine wc_abs ?_)
  | ((with_reducible refine' wc_max2 ?a ?_); (case a => assumption))
  | ((with_reducible refine' wc_min2 ?a ?_); (case a => assumption))
  | (with_reducible refine wc_list ?_)
  | (with_reducible refine wc_tuple ?_)
  | ((with_reducible refine' wc_lenS ?a ?_); (case a => row_cond dsz))
  | (with_reducible refine wc_lenM ?_)
  | (with_reducible refine wc_len ?_)
  | (with_reducible refine wc_isK ?_)
  | ((with_reducible refine' wc_allM ?a ?_); (case a => assumption))
  | ((with_reducible refine' wc_anyM ?a ?_); (case a => assumption))
  | ((with_reducible refine' wc_sum ?a ?_); (case a => assumption))
  | ((with_reducible refine' wx_list ?n ?_); (case n => row_cond dat))
  | ((with_reducible refine' wx_map ?a ?b ?_); (case a => omega); (case b => omega))
  | ((with_reducible refine' wx_seq ?a ?b ?_); (case a => omega); (case b => omega))
  | ((with_reducible refine' wx_tup ?n ?_); (case n => row_cond dat))
  | (with_reducible refine wsl_listM ?_)
  | (with_reducible refine wsl_list ?_)
  | (with_reducible refine wrev_goM ?_)
  | (with_reducible refine wrev_go ?_)
  | ((with_reducible refine' wo_catM ?n ?_); (case n => row_cond dsz))
  | ((with_reducible refine' wo_cat ?n ?_); (case n => row_cond dsz))
  | ((with_reducible refine' wm_append ?n ?_); (case n => row_cond dsz)))
local macro_rules | `(tactic| row_cond dat) => `(tactic| rfl)
local macro_rules | `(tactic| row_cond dix) => `(tactic| rfl)
local macro_rules | `(tactic| row_cond dlog) => `(tactic| first | decide | exact log_small (by omega) (by omega))
/- what stands between -/
local macro_rules | `(tactic| row_cond dQ) => `(tactic| first
  | (with_reducible refine ⟨_, rfl, ?_⟩)
  | (with_reducible refine br_true ?_)
  | (with_reducible refine br_false ?_)
  | (with_reducible refine rb_true ?_)
  | (with_reducible refine rb_false ?_)
  | ((with_reducible refine' br_dec ?_ ?_) <;> intro _)
  | ((with_reducible refine' br_ndec ?_ ?_) <;> intro _)
  | ((with_reducible refine' rb_dec ?_ ?_) <;> intro _)
  | ((with_reducible refine' rb_ndec ?_ ?_) <;> intro _)
  | (refine br_is rfl ?_)
  | (refine br_isnot rfl ?_)
  | (refine rb_is rfl ?_)
  | (refine rb_isnot rfl ?_)
  | ((with_reducible refine' ⟨⟨?a, ?b⟩, ?_⟩); (case a => omega); (case b => omega))
  | ((with_reducible refine' ⟨⟨?a, ?b, ?c, ?d⟩, ?_⟩); (case a => omega); (case b => omega); (case c => omega); (case d => omega))
  | (with_reducible refine app_go ?_)
  | (with_reducible refine ⟨tym_list, ?_⟩)
  | (with_reducible refine ⟨tym_str, ?_⟩)
  | ((with_reducible refine ⟨?n, ?_⟩); (case n => (show _ ≤ PySem.sizeLine); row_cond dsz))
  | (with_reducible intro _))
local macro_rules | `(tactic| row_cond dstart) => `(tactic| simp only [startD, List.map_cons, List.map_nil, List.length_cons, List.length_nil, List.cons_append, List.nil_append, Nat.zero_add, Nat.reduceAdd, Nat.reduceSub, List.replicate_succ, List.replicate_zero])
local macro_rules | `(tactic| row_cond d) => `(tactic| first | row_cond dE | row_cond dV | row_cond dO | row_cond dT | row_cond dS | row_cond dI | row_cond dmore | row_cond dspec | row_cond dQ)
local macro_rules | `(tactic| row_cond dn) => `(tactic| first | row_cond dE | row_cond dV | row_cond dO | row_cond dT | row_cond dSn | row_cond dI | row_cond dmore | row_cond dspec | row_cond dQ)
local macro_rules | `(tactic| row_cond gon) => `(tactic| repeat' (row_cond dn))
local macro_rules | `(tactic| row_cond go) => `(tactic| repeat' (row_cond d))
/- the later parts of the layer -/
local macro_rules | `(tactic| row_cond dE) => `(tactic| first
  | ((with_reducible refine' we_sortedSet ?a ?b ?c ?d ?e ?_); (case a => assumption); (case b => assumption); (case c => assumption); (case d => rfl); (case e => rfl))
  | ((with_reducible refine' we_get2 ?a ?b ?_); (case a => assumption); (case b => exact ⟨rfl, rfl, rfl, rfl⟩))
  | ((with_reducible refine' we_get1 ?a ?b ?_); (case a => assumption); (case b => exact ⟨rfl, rfl, rfl, rfl⟩))
  | ((with_reducible refine' we_pop1 ?b ?_); (case b => exact ⟨rfl, rfl, rfl, rfl⟩)))
local macro_rules | `(tactic| row_cond dO) => `(tactic| first
  | ((with_reducible refine' wc_sorted ?a ?b ?c ?_); (case a => assumption); (case b => decide); (case c => first | exact fun _ _ => trivial | assumption))
  | ((with_reducible refine' wsorted_go ?a ?_); (case a => first | assumption | omega))
  | ((with_reducible refine' wo_inD ?a ?b ?_); (case a => assumption); (case b => decide))
  | ((with_reducible refine' wo_ninD ?a ?b ?_); (case a => assumption); (case b => decide))
  | (with_reducible refine getD_K ?_)
  | (with_reducible refine getD_T ?_)
  | ((with_reducible refine' wsl_txt ?a ?_); (case a => row_cond dsz))
  | ((with_reducible refine' wx_strN ?a ?b ?c ?_); (case a => row_cond dsz); (case b => omega); (case c => first | omega | (simp only [PySem.Str.length]; omega)))
  | (with_reducible refine ⟨isDD_K, ?_⟩)
  | (with_reducible refine ⟨isDD_T, ?_⟩))
local macro_rules | `(tactic| row_cond dO) => `(tactic| first
  | ((with_reducible refine' wm_appendM ?n ?_); (case n => row_cond dsz)))
local macro_rules | `(tactic| row_cond dE) => `(tactic| ((with_reducible refine' we_con ?c ?_); (case c => assumption)))
local macro_rules | `(tactic| row_cond dV) => `(tactic| first
  | (with_reducible refine wk_nil ?_)
  | (with_reducible refine wk_cons ?_)
  | (with_reducible refine ⟨rfl, rfl, ?_⟩))
local macro_rules | `(tactic| row_cond dI) => `(tactic| ((with_reducible refine' wi_range3 ?a ?b ?c ?d ?_); (case a => exact BltAt.gl (by assumption)); (case b => exact BltAt.mg (by assumption)); (case c => rfl); (case d => rfl)))
local macro_rules | `(tactic| row_cond dO) => `(tactic| first
  | ((with_reducible refine' wc_lenS ?a ?_); (case a => row_cond dsz)))
local macro_rules | `(tactic| row_cond dO) => `(tactic| first
  | ((with_reducible refine' wo_addS ?a ?_); (case a => row_cond dsz)))
local macro_rules | `(tactic| row_cond dO) => `(tactic| first
  | ((with_reducible refine' wo_addS2 ?a ?_); (case a => first | decide | omega))
  | ((with_reducible refine' wsl_txt2 ?a ?_); (case a => first | decide | omega))
  | ((with_reducible refine' wc_lenS2 ?a ?_); (case a => first | decide | omega)))
local macro_rules | `(tactic| row_cond dE) => `(tactic| first
  | ((with_reducible refine we_bm (T := "str") PySem.F.plainAttrs_str PySem.F.slot_str_index PySem.F.type_str_index ?a ?b ?c ?d ?e ?_); (case a => rfl); (case b => rfl); (case c => rfl); (case d => rfl); (case e => rfl))
  | ((with_reducible refine we_bm (T := "str") PySem.F.plainAttrs_str PySem.F.slot_str_join PySem.F.type_str_join ?a ?b ?c ?d ?e ?_); (case a => rfl); (case b => rfl); (case c => rfl); (case d => rfl); (case e => rfl))
  | ((with_reducible refine we_bm (T := "str") PySem.F.plainAttrs_str PySem.F.slot_str_startswith PySem.F.type_str_startswith ?a ?b ?c ?d ?e ?_); (case a => rfl); (case b => rfl); (case c => rfl); (case d => rfl); (case e => rfl)))
local macro_rules | `(tactic| row_cond dO) => `(tactic| first
  | (with_reducible refine wm_starts ?_))
local macro_rules | `(tactic| row_cond dret) => `(tactic| (with_reducible refine ws_ret ?_))
local macro_rules | `(tactic| row_cond dO) => `(tactic| first
  | ((with_reducible refine' wx_asK ?a ?b ?_); (case a => assumption); (case b => assumption))
  | ((with_reducible refine' wo_inAsK ?a ?_); (case a => assumption))
  | ((with_reducible refine' wo_ninAsK ?a ?_); (case a => assumption))
  | ((with_reducible refine' wset_asK ?a ?b ?_); (case a => assumption); (case b => row_cond dsz))
  | (with_reducible refine getD_asK ?_)
  | ((with_reducible refine' popD_asK ?b ?_); (case b => assumption))
  | ((with_reducible refine' wx_asT ?a ?b ?_); (case a => assumption); (case b => assumption))
  | ((with_reducible refine' wo_inAsT ?a ?_); (case a => assumption))
  | ((with_reducible refine' wo_ninAsT ?a ?_); (case a => assumption))
  | ((with_reducible refine' wset_asT ?a ?b ?_); (case a => assumption); (case b => row_cond dsz))
  | (with_reducible refine getD_asT ?_)
  | ((with_reducible refine' wc_sortedAs ?a ?_); (case a => assumption)))
local macro_rules | `(tactic| row_cond dO) => `(tactic| first
  | (with_reducible refine wc_lenAsK ?_)
  | (with_reducible refine wc_lenAsT ?_))
local macro_rules | `(tactic| row_cond dI) => `(tactic| first
  | (with_reducible refine wiv_asK ?_))
local macro_rules | `(tactic| row_cond dV) => `(tactic| (with_reducible refine star_go ?_))
local macro_rules | `(tactic| row_cond dO) => `(tactic| first
  | ((with_reducible refine' wc_sortedAsT ?a ?b ?_); (case a => assumption); (case b => assumption))
  | ((with_reducible refine' wm_insert ?a ?b ?c ?_); (case a => row_cond dsz); (case b => omega); (case c => omega)))
local macro_rules | `(tactic| row_cond dE) => `(tactic| first
  | ((with_reducible refine we_bm (T := "list") PySem.F.plainAttrs_list PySem.F.slot_list_insert PySem.F.type_list_insert ?a ?b ?c ?d ?e ?_); (case a => rfl); (case b => rfl); (case c => rfl); (case d => rfl); (case e => rfl)))

theorem lc_mapG {P : Program} {w : World} {K : PySem.W.Frag} {mg : Str → Option Value} {base : Heap} {k : Nat} {X : Cx} {F : Fr} {Q : D → DL.Env → Prop} {sl slw : List (Option D)} {M R : Mem} {elt : Expr} {scope : Scope} {stand : DL.Env → Prop} {α β : Type} {f : α → D} {i : Nat} {x : Str} {pos : Pos} (g : β → D) (m : α → β) (hX : In X P w K mg base k) (hN : X.N[i]? = some x) (hl : scope.names.lookup x = some .local ∨ scope.names.lookup x = some .cell) [h : WipeS sl [i] slw] {xs : List α}
    (hst : ∀ a acc, stand ⟨slw, (a, .lst acc) :: M, R⟩) (hz : xs.length ≤ 16777216)
    (turn : ∀ a (j : Nat) y acc, xs[j]? = some y → Put i (f y) ⟨slw, (a, .lst acc) :: M, R⟩ fun Γ2 => ∀ X', IsBlk X X' scope → WE X' F elt Γ2 fun u Γ3 => Fz F u Γ3 (Pure1 a acc M R (g (m y))))
    (done : ∀ a, Q (.ref a) ⟨sl, (a, .lst ((xs.map m).map g)) :: M, R⟩) : LcAt X F (.Name x pos) elt [] scope [i] (xs.map f) stand ⟨sl, M, R⟩ Q :=
  lc_map hX hN hl (fun y => g (m y)) hst hz turn fun a => by
    have := done a
    rw [List.map_map] at this
    exact this
theorem wg_mono {X : Cx} {F : Fr} {tg : Expr} {d : D} {Γ : DL.Env} {Q Q' : DL.Env → Prop} (h : WG X F tg d Γ Q) (q : ∀ Γ, Q Γ → Q' Γ) : WG X F tg d Γ Q' := fun G σ H v hh r K hK => h G σ H v hh r K fun Γ' G' σ' H' a => hK Γ' G' σ' H' (q _ a)
/-- a for whose turns may leave things behind -/
theorem ws_forW {X : Cx} {F : Fr} {Γ : DL.Env} {tg iter : Expr} {body : List Stmt} {pos : Pos} {O : Out} (hX : Std X) (hs : ∀ x, foldedSetIterable iter X.env x = pure x)
    (h : WI X F tg iter Γ fun items stand Γ1 => ∃ W : Nat → DL.Env → Prop, W 0 Γ1 ∧ (∀ i Γ', W i Γ' → stand Γ') ∧
      (∀ (i : Nat) x Γ', items[i]? = some x → W i Γ' → WG X F tg x Γ' fun Γ2 => WSs X F body Γ2 { nx := fun Γ => ∃ Γ', Wk Γ Γ' ∧ W (i + 1) Γ', rt := O.rt, bk := fun Γ => ∃ Γ', Wk Γ Γ' ∧ O.nx Γ', ct := fun Γ => ∃ Γ', Wk Γ Γ' ∧ W (i + 1) Γ' }) ∧ ∀ Γ', W items.length Γ' → O.nx Γ') : WS X F (.For tg iter body [] pos) Γ O := by
  refine ws_for hX hs fun G σ H hh R hR => h G σ H hh R fun items stand Γ1 G1 H1 J q s1 h1 js => hR items stand Γ1 G1 H1 J ?_ s1 h1 js
  obtain ⟨W, w0, wst, turn, done⟩ := q
  exact ⟨W, w0, wst, fun i x Γ' hx hW => wg_mono (turn i x Γ' hx hW) fun Γ2 h2 => wss_wk h2, done⟩
theorem wk_sub {sl : List (Option D)} {M M' R : Mem} (h : M'.Sublist M) : Wk ⟨sl, M, R⟩ ⟨sl, M', R⟩ := ⟨.refl _, h, rfl⟩
theorem wk_none {sl : List (Option D)} {M R : Mem} : Wk ⟨sl, M, R⟩ ⟨sl, [], R⟩ := ⟨.refl _, List.nil_sublist _, rfl⟩
/-! a comprehension within a comprehension -/
def relabC (scope sc : Scope) : Scope := { scope with names := scope.names.map fun (n, k) => if (k == .free && sc.kind == .function && sc.names.lookup n == some .cell) then (n, .cell) else (n, k) }
theorem blk_N {X X' : Cx} {scope : Scope} (b : IsBlk X X' scope) : X'.N = X.N := by
  obtain ⟨s, H, C, cl, fp, rfl⟩ := b
  rfl
theorem blk_blk {X X' : Cx} {N : List Str} {sc scope scope2 : Scope} {own : List (Str × Nat)} (nm : Nm X N sc) (b : IsBlk X X' scope) (h : blkC N (relabC scope sc) scope2 own = true) : BlkOk X'.N X'.env.scope scope2 own := by
  have e : X'.env.scope = relabC scope sc := by
    obtain ⟨s, H, C, cl, fp, rfl⟩ := b
    have e2 : X.env.scope = sc := nm.sc
    subst e2
    rfl
  rw [blk_N b, nm.N, e]
  exact blkOk_by h

local macro_rules | `(tactic| row_cond dspec) => `(tactic| first
  | ((with_reducible refine' sp_law_next_go ?a ?b ?c ?_); (case a => assumption); (case b => first | decide | omega | (split <;> omega)); (case c => first | decide | omega | (split <;> omega)))
  | (with_reducible refine sp_law_mix_go ?_))
local macro_rules | `(tactic| row_cond dmore) => `(tactic| first
  | (with_reducible refine ⟨_, [], rfl, ?_⟩))

/-! ### freed -/
def sp_freed : SpD := fun ds M R Q => ∃ (dl dn : D) (L : Lg) (xs : List Str), ds = [dl, dn] ∧ M = [] ∧ See [] R dl (.lst (L.map encRow)) ∧ (See [] R dn (.lst (xs.map D.str)) ∨ See [] R dn (.tup (xs.map D.str))) ∧ L.length ≤ 1000 ∧ xs.length ≤ 4000 ∧ (∀ r ∈ L, r.1.length ≤ 4000) ∧ Q (.int (sumIf (fun l => l.all fun n => decide (n ∈ xs)) L)) []
theorem sumIf_at (p : Lot → Bool) {rs : Lg} {i : Nat} {r : Lot × Int} (h : rs[i]? = some r) : sumIf p (rs.take (i + 1)) = sumIf p (rs.take i) + if p r.1 then r.2 else 0 := by
  rw [List.take_add_one, h, sumIf_app]
  show _ + sumIf p [r] = _
  rw [sumIf_cons, sumIf_nil, Int.add_zero]
theorem all_map_id {α : Type} (f : α → Bool) (l : List α) : (l.map f).all id = l.all f := by rw [List.all_map]; rfl
theorem cal_freed {P : Program} {w : World} {K : PySem.W.Frag} {mg : Str → Option Value} {base : Heap} (T : Tx mg) (Da : DefAt K mg "freed" s_freed)  : Cal P w K mg base (1) "freed" sp_freed := by
  refine calD (k := 0) Da sc_freed (fun f fd Fu => Fu.binds fun _ _ _ _ _ _ us hl => match us, hl with | [_, _], _ => rfl) (by row_cond dlen) (fun X F hX nm ds M R Q hS => ?_)
  have hst := hX.std
  have n_ledger : NameAt X 0 "ledger" := nm.name rfl (.inl rfl) (by decide) (by decide)
  have s_ledger : StoreAt X 0 "ledger" := nm.store rfl (.inl rfl)
  have n_lot : NameAt X 1 "lot" := nm.name rfl (.inl rfl) (by decide) (by decide)
  have s_lot : StoreAt X 1 "lot" := nm.store rfl (.inl rfl)
  have n_inside : NameAt X 2 "inside" := nm.name rfl (.inr rfl) (by decide) (by decide)
  have s_inside : StoreAt X 2 "inside" := nm.store rfl (.inr rfl)
  have n_found : NameAt X 3 "found" := nm.name rfl (.inl rfl) (by decide) (by decide)
  have s_found : StoreAt X 3 "found" := nm.store rfl (.inl rfl)
  have n_holders : NameAt X 4 "holders" := nm.name rfl (.inl rfl) (by decide) (by decide)
  have s_holders : StoreAt X 4 "holders" := nm.store rfl (.inl rfl)
  have n_count : NameAt X 5 "count" := nm.name rfl (.inl rfl) (by decide) (by decide)
  have s_count : StoreAt X 5 "count" := nm.store rfl (.inl rfl)
  have b_all : BltAt X "all" (.builtin "all") := nm.blt hX rfl T.z_all bo_all (by decide) (by decide)
  obtain ⟨dl, dn, L, xs, rfl, rfl, sl1, sn, hz, hz2, hz3, hq⟩ := hS
  haveI : SeeL [] R dl (L.map encRow) := ⟨sl1⟩
  haveI : SeeQ [] R dn (xs.map D.str) := ⟨sn⟩
  row_cond dstart
  refine wss_cons ?_
  refine ws_mid (fun Γ => ∃ t, Γ = ⟨[some dl, some dn, some (.ref t), none, none, none, none], [(t, .dK (asK gW D.bl (DL.putAll (fun n : Str => n) (fun _ => true) xs)))], R⟩) ?_ ?_
  · refine ws_set hst s_inside (nm.staysD (by decide +kernel)) ?_
    refine we_dc' hst (own := [("name", 6)]) (nm.blk (by decide +kernel)) (fun _ => rfl) rfl ?_
    row_cond go
    refine dc_map (gk := gW) (fv := D.bl) hX (by rw [nm.N]; rfl) (.inl rfl) (fun n : Str => n) (fun _ => true) (fun _ _ => rfl) (by omega) (fun a j y acc hy => put_go fun X' hb => ?_) (fun a => ?_)
    ·
      have hX_X' := hb.inn hX
      have hst_X' := hX_X'.std
      have n_name_X' : NameAt X' 6 "name" := hb.name (by rw [nm.N]; rfl) (by first | exact .inl rfl | exact .inr (.inl rfl) | exact .inr (.inr rfl)) (by decide) (by decide)
      have s_name_X' : StoreAt X' 6 "name" := hb.store (by rw [nm.N]; rfl) (by first | exact .inl rfl | exact .inr rfl)
      row_cond go
      refine ⟨rfl, _, rfl, fun X2 hb2 => ?_⟩
      row_cond go
      exact ⟨rfl, _, rfl⟩
    · row_cond go
      exact ⟨_, rfl⟩
  rintro Γ ⟨t, rfl⟩
  row_cond gon
  refine ws_forW hst (fun _ => rfl) ?_
  row_cond go
  refine ⟨fun i Γ => ∃ a b c, Γ = ⟨[some dl, some dn, some (.ref t), some (.int (sumIf (fun l => l.all fun n => decide (n ∈ xs)) (L.take i))), a, b, c], [(t, .dK (asK gW D.bl (DL.putAll (fun n : Str => n) (fun _ => true) xs)))], R⟩, ⟨_, _, _, rfl⟩, ?_, fun i x Γ hx hW => ?_, fun Γ hW => ?_⟩
  · rintro i Γ ⟨a, b, c, rfl⟩
    exact (inferInstance : SeeL _ _ _ _).see
  · obtain ⟨a, b, c, rfl⟩ := hW
    rw [List.getElem?_map] at hx
    obtain ⟨r, hr, rfl⟩ := Option.map_eq_some_iff.mp hx
    have hs := sumIf_at (fun l => l.all fun n => decide (n ∈ xs)) hr
    have hrl := hz3 r (List.mem_of_getElem? hr)
    row_cond go
    refine we_lc' hst (own := [("name", 6)]) (nm.blk (by decide +kernel)) (fun _ => rfl) rfl ?_
    row_cond go
    refine lc_mapG D.bl (fun n : Str => decide (n ∈ xs)) hX (by rw [nm.N]; rfl) (.inl rfl) (fun _ _ => .self _) (by omega) (fun a j y acc hy => put_go fun X' hb => ?_) (fun a => ?_)
    ·
      have hX_X' := hb.inn hX
      have hst_X' := hX_X'.std
      have n_name_X' : NameAt X' 6 "name" := hb.name (by rw [nm.N]; rfl) (by first | exact .inl rfl | exact .inr (.inl rfl) | exact .inr (.inr rfl)) (by decide) (by decide)
      have s_name_X' : StoreAt X' 6 "name" := hb.store (by rw [nm.N]; rfl) (by first | exact .inl rfl | exact .inr rfl)
      have n_inside_X' : NameAt X' 2 "inside" := hb.name (by rw [nm.N]; rfl) (by first | exact .inl rfl | exact .inr (.inl rfl) | exact .inr (.inr rfl)) (by decide) (by decide)
      row_cond go
      refine ⟨?_, _, rfl⟩
      rw [mem_putAll]
      simp
    · row_cond go
      rw [all_map_id]
      refine ⟨fun hc => ?_, fun hc => ?_⟩
      · row_cond go
        exact ⟨_, wk_sub (.cons _ (.refl _)), _, _, _, by rw [hs, if_pos hc]⟩
      · row_cond go
        exact ⟨_, wk_sub (.cons _ (.refl _)), _, _, _, by rw [hs, if_neg (by rw [hc]; exact Bool.false_ne_true), Int.add_zero]⟩
  · obtain ⟨a, b, c, rfl⟩ := hW
    rw [List.length_map, List.take_length]
    row_cond go
    exact rt0 hq

end K50


namespace K50
open PySem PySem.Spec PyProof.Rows L2 DL
local macro_rules | `(tactic| row_cond dcall) => `(tactic| first
  | ((with_reducible refine' we_callS (x := "make_lot") ?c ?x ?j ?g ?d ?e ?_); (case c => assumption); (case x => assumption); (case j => first | decide | exact Nat.le_refl _ | omega); (case g => assumption); (case d => decide); (case e => rfl))
  | ((with_reducible refine' we_call (x := "make_ledger") ?c ?x ?j ?g ?d ?e ?p ?_); (case c => assumption); (case x => assumption); (case j => first | decide | exact Nat.le_refl _ | omega); (case g => assumption); (case d => decide); (case e => rfl); (case p => rfl))
  | ((with_reducible refine' we_call (x := "freed") ?c ?x ?j ?g ?d ?e ?p ?_); (case c => assumption); (case x => assumption); (case j => first | decide | exact Nat.le_refl _ | omega); (case g => assumption); (case d => decide); (case e => rfl); (case p => rfl))
  | ((with_reducible refine' we_call (x := "reduced") ?c ?x ?j ?g ?d ?e ?p ?_); (case c => assumption); (case x => assumption); (case j => first | decide | exact Nat.le_refl _ | omega); (case g => assumption); (case d => decide); (case e => rfl); (case p => rfl))
  | ((with_reducible refine' we_call (x := "_law_mix") ?c ?x ?j ?g ?d ?e ?p ?_); (case c => assumption); (case x => assumption); (case j => first | decide | exact Nat.le_refl _ | omega); (case g => assumption); (case d => decide); (case e => rfl); (case p => rfl))
  | ((with_reducible refine' we_call (x := "_law_start") ?c ?x ?j ?g ?d ?e ?p ?_); (case c => assumption); (case x => assumption); (case j => first | decide | exact Nat.le_refl _ | omega); (case g => assumption); (case d => decide); (case e => rfl); (case p => rfl))
  | ((with_reducible refine' we_call1 (x := "_law_next") ?c ?x ?j ?g ?d ?e ?p ?_); (case c => assumption); (case x => assumption); (case j => first | decide | exact Nat.le_refl _ | omega); (case g => assumption); (case d => decide); (case e => rfl); (case p => rfl))
  | ((with_reducible refine' we_call (x := "_law_is") ?c ?x ?j ?g ?d ?e ?p ?_); (case c => assumption); (case x => assumption); (case j => first | decide | exact Nat.le_refl _ | omega); (case g => assumption); (case d => decide); (case e => rfl); (case p => rfl))
  | ((with_reducible refine' we_call1 (x := "_law_names") ?c ?x ?j ?g ?d ?e ?p ?_); (case c => assumption); (case x => assumption); (case j => first | decide | exact Nat.le_refl _ | omega); (case g => assumption); (case d => decide); (case e => rfl); (case p => rfl))
  | ((with_reducible refine' we_call1 (x := "_law_lot") ?c ?x ?j ?g ?d ?e ?p ?_); (case c => assumption); (case x => assumption); (case j => first | decide | exact Nat.le_refl _ | omega); (case g => assumption); (case d => decide); (case e => rfl); (case p => rfl))
  | ((with_reducible refine' we_call1 (x := "_law_ledger") ?c ?x ?j ?g ?d ?e ?p ?_); (case c => assumption); (case x => assumption); (case j => first | decide | exact Nat.le_refl _ | omega); (case g => assumption); (case d => decide); (case e => rfl); (case p => rfl))
  | ((with_reducible refine' we_call1 (x := "_law_turned") ?c ?x ?j ?g ?d ?e ?p ?_); (case c => assumption); (case x => assumption); (case j => first | decide | exact Nat.le_refl _ | omega); (case g => assumption); (case d => decide); (case e => rfl); (case p => rfl))
  | ((with_reducible refine' we_call (x := "_law_reduced") ?c ?x ?j ?g ?d ?e ?p ?_); (case c => assumption); (case x => assumption); (case j => first | decide | exact Nat.le_refl _ | omega); (case g => assumption); (case d => decide); (case e => rfl); (case p => rfl))
  | ((with_reducible refine' we_call (x := "_law_freed") ?c ?x ?j ?g ?d ?e ?p ?_); (case c => assumption); (case x => assumption); (case j => first | decide | exact Nat.le_refl _ | omega); (case g => assumption); (case d => decide); (case e => rfl); (case p => rfl))
  | ((with_reducible refine' we_call1 (x := "_law_lots") ?c ?x ?j ?g ?d ?e ?p ?_); (case c => assumption); (case x => assumption); (case j => first | decide | exact Nat.le_refl _ | omega); (case g => assumption); (case d => decide); (case e => rfl); (case p => rfl))
  | ((with_reducible refine' we_call (x := "law") ?c ?x ?j ?g ?d ?e ?p ?_); (case c => assumption); (case x => assumption); (case j => first | decide | exact Nat.le_refl _ | omega); (case g => assumption); (case d => decide); (case e => rfl); (case p => rfl)))
/-! the steps: one line a construct -/
local macro_rules | `(tactic| row_cond dlen) => `(tactic| (intro ds M R Q h; first | (obtain ⟨h1, _⟩ := h; subst h1; rfl) | (obtain ⟨_, h1, _⟩ := h; subst h1; rfl) | (obtain ⟨_, _, h1, _⟩ := h; subst h1; rfl) | (obtain ⟨_, _, _, h1, _⟩ := h; subst h1; rfl) | (obtain ⟨_, _, _, _, h1, _⟩ := h; subst h1; rfl) | (obtain ⟨_, _, _, _, _, h1, _⟩ := h; subst h1; rfl) | (obtain ⟨_, _, _, _, _, _, h1, _⟩ := h; subst h1; rfl) | (obtain ⟨_, _, _, _, _, _, _, h1, _⟩ := h; subst h1; rfl) | (obtain ⟨_, _, _, _, _, _, _, _, h1, _⟩ := h; subst h1; rfl) | (obtain ⟨_, _, _, _, _, _, _, _, _, h1, _⟩ := h; subst h1; rfl) | (obtain ⟨_, _, _, _, _, _, _, _, _, _, h1, _⟩ := h; subst h1; rfl) | (obtain ⟨_, _, _, _, _, _, _, _, _, _, _, h1, _⟩ := h; subst h1; rfl) | (obtain ⟨_, _, _, _, _, _, _, _, _, _, _, _, h1, _⟩ := h; subst h1; rfl)))
local macro_rules | `(tactic| row_cond dsz) => `(tactic| first | exact Nat.le_of_ble_eq_true rfl | assumption | (simp only [List.length_map, List.length_cons, List.length_append, List.length_nil, List.length_reverse, List.length_take, List.length_drop, PySem.sizeLine]; omega))
/- expressions -/
local macro_rules | `(tactic| row_cond dE) => `(tactic| first
  | ((with_reducible refine' we_name ?n ?e ?_); (case n => assumption); (case e => rfl))
  | (with_reducible refine we_int ?_)
  | (with_reducible refine we_bl ?_)
  | (with_reducible refine we_str ?_)
  | (with_reducible refine we_non ?_)
  | (with_reducible refine we_bin ?_)
  | ((with_reducible refine' we_cmp ?n ?_); (case n => rfl))
  | (with_reducible refine we_slice ?_)
  | (with_reducible refine we_rev ?_)
  | ((with_reducible refine' we_ix ?n ?_); (case n => exact fun _ _ => rfl))
  | (with_reducible refine we_tupV ?_)
  | (with_reducible refine we_lstV ?_)
  | ((with_reducible refine' we_blt ?b ?n ?m ?_); (case b => assumption); (case n => rfl); (case m => rfl))
  | ((with_reducible refine' we_typ ?b ?n ?m ?_); (case b => assumption); (case n => rfl); (case m => rfl))
  | ((with_reducible refine' we_tyName ?b ?_); (case b => assumption))
  | (with_reducible refine we_one ?_)
  | (with_reducible refine we_and ?_)
  | (with_reducible refine we_or ?_)
  | (with_reducible refine we_not ?_)
  | (with_reducible refine we_ifexp ?_)
  | ((with_reducible refine' we_un ?n ?_); (case n => exact fun z => nomatch z))
  | row_cond dcall
  | ((with_reducible refine we_bm (T := "list") PySem.F.plainAttrs_list PySem.F.slot_list_append PySem.F.type_list_append ?a ?b ?c ?d ?e ?_); (case a => rfl); (case b => rfl); (case c => rfl); (case d => rfl); (case e => rfl))
  | ((with_reducible refine we_bm0 (T := "list") PySem.F.plainAttrs_list PySem.F.slot_list_pop PySem.F.type_list_pop ?a ?b ?_); (case a => rfl); (case b => rfl))
  | ((with_reducible refine we_bm (T := "list") PySem.F.plainAttrs_list PySem.F.slot_list_extend PySem.F.type_list_extend ?a ?b ?c ?d ?e ?_); (case a => rfl); (case b => rfl); (case c => rfl); (case d => rfl); (case e => rfl)))
/- tests -/
local macro_rules | `(tactic| row_cond dT) => `(tactic| first
  | ((with_reducible refine' wt_cmp ?n ?_); (case n => rfl))
  | (with_reducible refine wt_not ?_)
  | (with_reducible refine wt_bool ?_)
  | (with_reducible refine ww_and1 ?_)
  | (with_reducible refine ww_or1 ?_)
  | (with_reducible refine ww_and ?_)
  | (with_reducible refine ww_or ?_)
  | ((with_reducible refine' wt_val ?n ?_); (case n => exact fun _ => rfl)))
/- statements -/
local macro_rules | `(tactic| row_cond dS) => `(tactic| first
  | (with_reducible refine wss_cons ?_)
  | (with_reducible refine wss_nil ?_)
  | ((with_reducible refine' ws_set ?a ?n ?h ?_); (case a => assumption); (case n => assumption); (case h => rfl))
  | ((with_reducible refine' ws_sub ?h ?_); (case h => rfl))
  | ((with_reducible refine' ws_asg ?a ?n ?h ?_); (case a => rfl); (case n => rfl); (case h => rfl))
  | (with_reducible refine ws_if ?_)
  | row_cond dret
  | ((with_reducible refine' ws_expr ?h ?_); (case h => rfl))
  | (with_reducible refine ws_pass ?_)
  | (with_reducible refine ws_break ?_)
  | (with_reducible refine ws_continue ?_)
  | (with_reducible refine ws_retN ?_))
local macro_rules | `(tactic| row_cond dSn) => `(tactic| first
  | (with_reducible refine wss_cons ?_)
  | (with_reducible refine wss_nil ?_)
  | ((with_reducible refine' ws_set ?a ?n ?h ?_); (case a => assumption); (case n => assumption); (case h => rfl))
  | ((with_reducible refine' ws_sub ?h ?_); (case h => rfl))
  | ((with_reducible refine' ws_asg ?a ?n ?h ?_); (case a => rfl); (case n => rfl); (case h => rfl))
  | row_cond dret
  | ((with_reducible refine' ws_expr ?h ?_); (case h => rfl))
  | (with_reducible refine ws_pass ?_)
  | (with_reducible refine ws_break ?_)
  | (with_reducible refine ws_continue ?_)
  | (with_reducible refine ws_retN ?_))
/- arguments, targets, values -/
local macro_rules | `(tactic| row_cond dV) => `(tactic| first
  | (with_reducible refine wa_nil ?_)
  | ((with_reducible refine' wa_cons ?n ?_); (case n => rfl))
  | (with_reducible refine wav_nil ?_)
  | ((with_reducible refine' wav_cons ?n ?_); (case n => rfl))
  | (with_reducible refine put_go ?_)
  | (with_reducible refine fz_lst ?_)
  | (with_reducible refine fz_tup ?_)
  | (with_reducible refine fz_id ?_)
  | (with_reducible refine own0_go ?_)
  | (with_reducible refine own1_go ?_)
  | (with_reducible refine app_go ?_)
  | (with_reducible refine mset_go ?_)
  | ((with_reducible refine' wg_name ?a ?n ?_); (case a => assumption); (case n => assumption))
  | ((with_reducible refine' wg_tup ?a ?n ?h ?_); (case a => assumption); (case n => rfl); (case h => rfl))
  | (with_reducible refine wgs_nil ?_)
  | ((with_reducible refine' wgs_cons ?n ?_); (case n => rfl))
  | (with_reducible refine wpt_none ?_)
  | (with_reducible refine wpt_some ?_)
  | ((with_reducible refine' wset_list ?n ?_); (case n => first | rfl | row_cond dix)))
/- what is walked -/
local macro_rules | `(tactic| row_cond dI) => `(tactic| first
  | ((with_reducible refine' wi_range1 ?a ?b ?c ?_); (case a => exact BltAt.gl (by assumption)); (case b => exact BltAt.mg (by assumption)); (case c => rfl))
  | ((with_reducible refine' wi_range2 ?a ?b ?c ?d ?_); (case a => exact BltAt.gl (by assumption)); (case b => exact BltAt.mg (by assumption)); (case c => rfl); (case d => rfl))
  | (with_reducible refine wi_val ?_)
  | (with_reducible refine wiv_list ?_)
  | (with_reducible refine wiv_tup ?_)
  | (with_reducible refine wiv_seq ?_)
  | ((with_reducible refine' wgc_name ?a ?n ?h ?_); (case a => assumption); (case n => assumption); (case h => decide))
  | ((with_reducible refine' wgc_tup ?a ?n ?h ?_); (case a => assumption); (case n => rfl); (case h => rfl))
  | (with_reducible refine wgcs_nil ?_)
  | ((with_reducible refine' wgcs_cons ?n ?_); (case n => rfl))
  | (with_reducible refine wts_nil ?_)
  | (with_reducible refine wts_one ?_))
/- operations by values -/
local macro_rules | `(tactic| row_cond dO) => `(tactic| first
  | (with_reducible refine wo_add ?_)
  | (with_reducible refine wo_sub ?_)
  | ((with_reducible refine' wo_mulS ?n ?_); (case n => first | exact .inr ⟨by decide, by decide⟩ | exact .inl ⟨by decide, by decide⟩ | exact .inr ⟨by omega, by omega⟩ | exact .inl ⟨by omega, by omega⟩))
  | ((with_reducible refine' wo_fdiv ?n ?m ?_); (case n => first | decide | omega); (case m => first | decide | row_cond dlog))
  | ((with_reducible refine' wo_mod ?n ?_); (case n => first | decide | omega))
  | (with_reducible refine wo_powL ?_)
  | ((with_reducible refine' wo_pow ?n ?_); (case n => exact ⟨by decide, by decide, by decide⟩))
  | (with_reducible refine wo_xor ?_)
  | (with_reducible refine wo_lt ?_)
  | (with_reducible refine wo_le ?_)
  | (with_reducible refine wo_gt ?_)
  | (with_reducible refine wo_ge ?_)
  | (with_reducible refine wo_eqI ?_)
  | (with_reducible refine wo_neI ?_)
  | (with_reducible refine wo_eqS ?_)
  | (with_reducible refine wo_neS ?_)
  | (with_reducible refine wo_isN ?_)
  | (with_reducible refine wo_isnotN ?_)
  | (with_reducible refine wu_neg ?_)
  | (with_reducible refine wc_int ?_)
  | (with_reducible refine wc_intB ?_)
  | (with_reducible refine wc_abs ?_)
  | ((with_reducible refine' wc_max2 ?a ?_); (case a => assumption))
  | ((with_reducible refine' wc_min2 ?a ?_); (case a => assumption))
  | (with_reducible refine wc_list ?_)
  | (with_reducible refine wc_tuple ?_)
  | ((with_reducible refine' wc_lenS ?a ?_); (case a => row_cond dsz))
  | (with_reducible refine wc_lenM ?_)
  | (with_reducible refine wc_len ?_)
  | (with_reducible refine wc_isK ?_)
  | ((with_reducible refine' wc_allM ?a ?_); (case a => assumption))
  | ((with_reducible refine' wc_anyM ?a ?_); (case a => assumption))
  | ((with_reducible refine' wc_sum ?a ?_); (case a => assumption))
  | ((with_reducible refine' wx_list ?n ?_); (case n => row_cond dat))
  | ((with_reducible refine' wx_map ?a ?b ?_); (case a => omega); (case b => omega))
  | ((with_reducible refine' wx_seq ?a ?b ?_); (case a => omega); (case b => omega))
  | ((with_reducible refine' wx_tup ?n ?_); (case n => row_cond dat))
  | (with_reducible refine wsl_listM ?_)
  | (with_reducible refine wsl_list ?_)
  | (with_reducible refine wrev_goM ?_)
  | (with_reducible refine wrev_go ?_)
  | ((with_reducible refine' wo_catM ?n ?_); (case n => row_cond dsz))
  | ((with_reducible refine' wo_cat ?n ?_); (case n => row_cond dsz))
  | ((with_reducible refine' wm_append ?n ?_); (case n => row_cond dsz)))
local macro_rules | `(tactic| row_cond dat) => `(tactic| rfl)
local macro_rules | `(tactic| row_cond dix) => `(tactic| rfl)
local macro_rules | `(tactic| row_cond dlog) => `(tactic| first | decide | exact log_small (by omega) (by omega))
/- what stands between -/
local macro_rules | `(tactic| row_cond dQ) => `(tactic| first
  | (with_reducible refine ⟨_, rfl, ?_⟩)
  | (with_reducible refine br_true ?_)
  | (with_reducible refine br_false ?_)
  | (with_reducible refine rb_true ?_)
  | (with_reducible refine rb_false ?_)
  | ((with_reducible refine' br_dec ?_ ?_) <;> intro _)
  | ((with_reducible refine' br_ndec ?_ ?_) <;> intro _)
  | ((with_reducible refine' rb_dec ?_ ?_) <;> intro _)
  | ((with_reducible refine' rb_ndec ?_ ?_) <;> intro _)
  | (refine br_is rfl ?_)
  | (refine br_isnot rfl ?_)
  | (refine rb_is rfl ?_)
  | (refine rb_isnot rfl ?_)
  | ((with_reducible refine' ⟨⟨?a, ?b⟩, ?_⟩); (case a => omega); (case b => omega))
  | ((with_reducible refine' ⟨⟨?a, ?b, ?c, ?d⟩, ?_⟩); (case a => omega); (case b => omega); (case c => omega); (case d => omega))
  | (with_reducible refine app_go ?_)
  | (with_reducible refine ⟨tym_list, ?_⟩)
  | (with_reducible refine ⟨tym_str, ?_⟩)
  | ((with_reducible refine ⟨?n, ?_⟩); (case n => (show _ ≤ PySem.sizeLine); row_cond dsz))
  | (with_reducible intro _))
local macro_rules | `(tactic| row_cond dstart) => `(tactic| simp only [startD, List.map_cons, List.map_nil, List.length_cons, List.length_nil, List.cons_append, List.nil_append, Nat.zero_add, Nat.reduceAdd, Nat.reduceSub, List.replicate_succ, List.replicate_zero])
local macro_rules | `(tactic| row_cond d) => `(tactic| first | row_cond dE | row_cond dV | row_cond dO | row_cond dT | row_cond dS | row_cond dI | row_cond dmore | row_cond dspec | row_cond dQ)
local macro_rules | `(tactic| row_cond dn) => `(tactic| first | row_cond dE | row_cond dV | row_cond dO | row_cond dT | row_cond dSn | row_cond dI | row_cond dmore | row_cond dspec | row_cond dQ)
local macro_rules | `(tactic| row_cond gon) => `(tactic| repeat' (row_cond dn))
local macro_rules | `(tactic| row_cond go) => `(tactic| repeat' (row_cond d))
/- the later parts of the layer -/
local macro_rules | `(tactic| row_cond dE) => `(tactic| first
  | ((with_reducible refine' we_sortedSet ?a ?b ?c ?d ?e ?_); (case a => assumption); (case b => assumption); (case c => assumption); (case d => rfl); (case e => rfl))
  | ((with_reducible refine' we_get2 ?a ?b ?_); (case a => assumption); (case b => exact ⟨rfl, rfl, rfl, rfl⟩))
  | ((with_reducible refine' we_get1 ?a ?b ?_); (case a => assumption); (case b => exact ⟨rfl, rfl, rfl, rfl⟩))
  | ((with_reducible refine' we_pop1 ?b ?_); (case b => exact ⟨rfl, rfl, rfl, rfl⟩)))
local macro_rules | `(tactic| row_cond dO) => `(tactic| first
  | ((with_reducible refine' wc_sorted ?a ?b ?c ?_); (case a => assumption); (case b => decide); (case c => first | exact fun _ _ => trivial | assumption))
  | ((with_reducible refine' wsorted_go ?a ?_); (case a => first | assumption | omega))
  | ((with_reducible refine' wo_inD ?a ?b ?_); (case a => assumption); (case b => decide))
  | ((with_reducible refine' wo_ninD ?a ?b ?_); (case a => assumption); (case b => decide))
  | (with_reducible refine getD_K ?_)
  | (with_reducible refine getD_T ?_)
  | ((with_reducible refine' wsl_txt ?a ?_); (case a => row_cond dsz))
  | ((with_reducible refine' wx_strN ?a ?b ?c ?_); (case a => row_cond dsz); (case b => omega); (case c => first | omega | (simp only [PySem.Str.length]; omega)))
  | (with_reducible refine ⟨isDD_K, ?_⟩)
  | (with_reducible refine ⟨isDD_T, ?_⟩))
local macro_rules | `(tactic| row_cond dO) => `(tactic| first
  | ((with_reducible refine' wm_appendM ?n ?_); (case n => row_cond dsz)))
local macro_rules | `(tactic| row_cond dE) => `(tactic| ((with_reducible refine' we_con ?c ?_); (case c => assumption)))
local macro_rules | `(tactic| row_cond dV) => `(tactic| first
  | (with_reducible refine wk_nil ?_)
  | (with_reducible refine wk_cons ?_)
  | (with_reducible refine ⟨rfl, rfl, ?_⟩))
local macro_rules | `(tactic| row_cond dI) => `(tactic| ((with_reducible refine' wi_range3 ?a ?b ?c ?d ?_); (case a => exact BltAt.gl (by assumption)); (case b => exact BltAt.mg (by assumption)); (case c => rfl); (case d => rfl)))
local macro_rules | `(tactic| row_cond dO) => `(tactic| first
  | ((with_reducible refine' wc_lenS ?a ?_); (case a => row_cond dsz)))
local macro_rules | `(tactic| row_cond dO) => `(tactic| first
  | ((with_reducible refine' wo_addS ?a ?_); (case a => row_cond dsz)))
local macro_rules | `(tactic| row_cond dO) => `(tactic| first
  | ((with_reducible refine' wo_addS2 ?a ?_); (case a => first | decide | omega))
  | ((with_reducible refine' wsl_txt2 ?a ?_); (case a => first | decide | omega))
  | ((with_reducible refine' wc_lenS2 ?a ?_); (case a => first | decide | omega)))
local macro_rules | `(tactic| row_cond dE) => `(tactic| first
  | ((with_reducible refine we_bm (T := "str") PySem.F.plainAttrs_str PySem.F.slot_str_index PySem.F.type_str_index ?a ?b ?c ?d ?e ?_); (case a => rfl); (case b => rfl); (case c => rfl); (case d => rfl); (case e => rfl))
  | ((with_reducible refine we_bm (T := "str") PySem.F.plainAttrs_str PySem.F.slot_str_join PySem.F.type_str_join ?a ?b ?c ?d ?e ?_); (case a => rfl); (case b => rfl); (case c => rfl); (case d => rfl); (case e => rfl))
  | ((with_reducible refine we_bm (T := "str") PySem.F.plainAttrs_str PySem.F.slot_str_startswith PySem.F.type_str_startswith ?a ?b ?c ?d ?e ?_); (case a => rfl); (case b => rfl); (case c => rfl); (case d => rfl); (case e => rfl)))
local macro_rules | `(tactic| row_cond dO) => `(tactic| first
  | (with_reducible refine wm_starts ?_))
local macro_rules | `(tactic| row_cond dret) => `(tactic| (with_reducible refine ws_ret ?_))
local macro_rules | `(tactic| row_cond dO) => `(tactic| first
  | ((with_reducible refine' wx_asK ?a ?b ?_); (case a => assumption); (case b => assumption))
  | ((with_reducible refine' wo_inAsK ?a ?_); (case a => assumption))
  | ((with_reducible refine' wo_ninAsK ?a ?_); (case a => assumption))
  | ((with_reducible refine' wset_asK ?a ?b ?_); (case a => assumption); (case b => row_cond dsz))
  | (with_reducible refine getD_asK ?_)
  | ((with_reducible refine' popD_asK ?b ?_); (case b => assumption))
  | ((with_reducible refine' wx_asT ?a ?b ?_); (case a => assumption); (case b => assumption))
  | ((with_reducible refine' wo_inAsT ?a ?_); (case a => assumption))
  | ((with_reducible refine' wo_ninAsT ?a ?_); (case a => assumption))
  | ((with_reducible refine' wset_asT ?a ?b ?_); (case a => assumption); (case b => row_cond dsz))
  | (with_reducible refine getD_asT ?_)
  | ((with_reducible refine' wc_sortedAs ?a ?_); (case a => assumption)))
local macro_rules | `(tactic| row_cond dO) => `(tactic| first
  | (with_reducible refine wc_lenAsK ?_)
  | (with_reducible refine wc_lenAsT ?_))
local macro_rules | `(tactic| row_cond dI) => `(tactic| first
  | (with_reducible refine wiv_asK ?_))
local macro_rules | `(tactic| row_cond dV) => `(tactic| (with_reducible refine star_go ?_))
local macro_rules | `(tactic| row_cond dO) => `(tactic| first
  | ((with_reducible refine' wc_sortedAsT ?a ?b ?_); (case a => assumption); (case b => assumption))
  | ((with_reducible refine' wm_insert ?a ?b ?c ?_); (case a => row_cond dsz); (case b => omega); (case c => omega)))
local macro_rules | `(tactic| row_cond dE) => `(tactic| first
  | ((with_reducible refine we_bm (T := "list") PySem.F.plainAttrs_list PySem.F.slot_list_insert PySem.F.type_list_insert ?a ?b ?c ?d ?e ?_); (case a => rfl); (case b => rfl); (case c => rfl); (case d => rfl); (case e => rfl)))

local macro_rules | `(tactic| row_cond dspec) => `(tactic| first
  | ((with_reducible refine' sp_law_next_go ?a ?b ?c ?_); (case a => assumption); (case b => first | decide | omega | (split <;> omega)); (case c => first | decide | omega | (split <;> omega)))
  | (with_reducible refine sp_law_mix_go ?_))
local macro_rules | `(tactic| row_cond dmore) => `(tactic| first
  | (with_reducible refine ⟨_, [], rfl, ?_⟩))

/-! ### reduced -/
/-- the names of a list or a tuple that is only read -/
def SeqN (R : Mem) (d : D) (xs : List Str) : Prop := See [] R d (.lst (xs.map D.str)) ∨ See [] R d (.tup (xs.map D.str))
/-- a row counts, and what is left of its lot -/
def redOk (C K : List Str) (l : Lot) : Bool := l.all fun n => decide (n ∈ C) && !decide (n ∈ K)
def redCut (G : List Str) (l : Lot) : Lot := l.filter fun n => !decide (n ∈ G)
def redSure (L : Lg) (C G K : List Str) : Int := sumIf (fun l => redOk C K l && decide ((redCut G l).length = 0)) L
def redRows (L : Lg) (C G K : List Str) : Lg := (L.filter fun r => redOk C K r.1 && !decide ((redCut G r.1).length = 0)).map fun r => (redCut G r.1, r.2)
def LgOk (L : Lg) : Prop := L.length ≤ 1000 ∧ ∀ r ∈ L, LotOk r.1 ∧ r.1.length ≤ 4000 ∧ 0 < r.2
def sp_reduced : SpD := fun ds M R Q => ∃ (dl dc dg dk : D) (L : Lg) (C G K : List Str), ds = [dl, dc, dg, dk] ∧ M = [] ∧ See [] R dl (.lst (L.map encRow)) ∧ SeqN R dc C ∧ SeqN R dg G ∧ SeqN R dk K ∧ LgOk L ∧ ∀ p, Q (.tup [.int (redSure L C G K), .ref p]) [(p, .lst ((srtL (tab (redRows L C G K))).map encRow))]
theorem redRows_at {L : Lg} {C G K : List Str} {i : Nat} {r : Lot × Int} (h : L[i]? = some r) : redRows (L.take (i + 1)) C G K = redRows (L.take i) C G K ++ if redOk C K r.1 && !decide ((redCut G r.1).length = 0) then [(redCut G r.1, r.2)] else [] := by
  unfold redRows
  rw [List.take_add_one, h, List.filter_append, List.map_append]
  simp only [Option.toList, List.filter_cons, List.filter_nil]
  split <;> rfl
theorem redRows_ok {L : Lg} (hL : LgOk L) (C G K : List Str) : LgOk (redRows L C G K) ∧ ∀ r ∈ redRows L C G K, 0 < r.1.length := by
  refine ⟨⟨?_, fun r hr => ?_⟩, fun r hr => ?_⟩
  · unfold redRows; rw [List.length_map]; exact Nat.le_trans (List.length_filter_le _ _) hL.1
  · obtain ⟨q, hq, rfl⟩ := List.mem_map.mp hr
    obtain ⟨a, b, c⟩ := hL.2 q (List.mem_filter.mp hq).1
    exact ⟨a.filter _, Nat.le_trans (List.length_filter_le _ _) b, c⟩
  · obtain ⟨q, hq, rfl⟩ := List.mem_map.mp hr
    have := (List.mem_filter.mp hq).2
    simp only [Bool.and_eq_true, Bool.not_eq_true', decide_eq_false_iff_not] at this
    exact Nat.pos_of_ne_zero this.2
/-- sorted rows without empty lots stay as they are -/
theorem mkRows_id {L : Lg} (hL : LgOk L) (hp : ∀ r ∈ L, 0 < r.1.length) : mkRows L = L := by
  unfold mkRows
  have e : L.map (fun r => (srt ltS (onceL r.1), r.2)) = L := by
    refine (List.map_congr_left fun r hr => ?_).trans (List.map_id _)
    show (srt ltS (onceL r.1), r.2) = r
    rw [(hL.2 r hr).1.norm]
  rw [e, List.filter_eq_self]
  intro r hr
  simp [hp r hr, (hL.2 r hr).2.2]
theorem sp_led_go {d : D} {rows : List D} {rs : Lg} {R : Mem} {Q : D → Mem → Prop} [s : SeeL [] R d rows] (hr : RowsRep rows rs) (hz : rs.length ≤ 1000) (hz2 : ∀ r ∈ rs, r.1.length ≤ 4000) (q : ∀ p, Q (.ref p) [(p, .lst ((srtL (tab (mkRows rs))).map encRow))]) : sp_make_ledger [d] [] R Q := ⟨d, rows, rs, rfl, rfl, s.see, hr, hz, hz2, q⟩
/-- rows whose lots are lists -/
abbrev encRowL (r : Lot × Int) : D := .tup [.lst (r.1.map D.str), .int r.2]
theorem rows_L (rs : Lg) : RowsRep (rs.map encRowL) rs := ⟨by rw [List.length_map], fun i d r h1 h2 => by
  rw [List.getElem?_map, h2] at h1
  cases h1
  exact .inl rfl⟩
instance EncAs.rowL {l : Lot} {c : Int} : EncAs encRowL (.tup [.lst (l.map D.str), .int c]) (l, c) := ⟨rfl⟩
theorem cal_reduced {P : Program} {w : World} {K : PySem.W.Frag} {mg : Str → Option Value} {base : Heap} (T : Tx mg) (Da : DefAt K mg "reduced" s_reduced) (c_make_ledger : Cal P w K mg base 2 "make_ledger" sp_make_ledger) : Cal P w K mg base (3) "reduced" sp_reduced := by
  refine calD (k := 2) Da sc_reduced (fun f fd Fu => Fu.binds fun _ _ _ _ _ _ us hl => match us, hl with | [_, _, _, _], _ => rfl) (by row_cond dlen) (fun X F hX nm ds M R Q hS => ?_)
  have hst := hX.std
  have n_ledger : NameAt X 0 "ledger" := nm.name rfl (.inl rfl) (by decide) (by decide)
  have s_ledger : StoreAt X 0 "ledger" := nm.store rfl (.inl rfl)
  have n_candidates : NameAt X 1 "candidates" := nm.name rfl (.inr rfl) (by decide) (by decide)
  have s_candidates : StoreAt X 1 "candidates" := nm.store rfl (.inr rfl)
  have n_gone : NameAt X 2 "gone" := nm.name rfl (.inr rfl) (by decide) (by decide)
  have s_gone : StoreAt X 2 "gone" := nm.store rfl (.inr rfl)
  have n_kept : NameAt X 3 "kept" := nm.name rfl (.inr rfl) (by decide) (by decide)
  have s_kept : StoreAt X 3 "kept" := nm.store rfl (.inr rfl)
  have n_sure : NameAt X 4 "sure" := nm.name rfl (.inl rfl) (by decide) (by decide)
  have s_sure : StoreAt X 4 "sure" := nm.store rfl (.inl rfl)
  have n_rows : NameAt X 5 "rows" := nm.name rfl (.inl rfl) (by decide) (by decide)
  have s_rows : StoreAt X 5 "rows" := nm.store rfl (.inl rfl)
  have n_lot : NameAt X 6 "lot" := nm.name rfl (.inl rfl) (by decide) (by decide)
  have s_lot : StoreAt X 6 "lot" := nm.store rfl (.inl rfl)
  have n_count : NameAt X 7 "count" := nm.name rfl (.inl rfl) (by decide) (by decide)
  have s_count : StoreAt X 7 "count" := nm.store rfl (.inl rfl)
  have n_rest : NameAt X 8 "rest" := nm.name rfl (.inl rfl) (by decide) (by decide)
  have s_rest : StoreAt X 8 "rest" := nm.store rfl (.inl rfl)
  have b_all : BltAt X "all" (.builtin "all") := nm.blt hX rfl T.z_all bo_all (by decide) (by decide)
  have b_len : BltAt X "len" (.builtin "len") := nm.blt hX rfl T.z_len bo_len (by decide) (by decide)
  have g_make_ledger : Gl X "make_ledger" := nm.gl rfl
  obtain ⟨dl, dc, dg, dk, L, C, G, K', rfl, rfl, sl1, sc, sg, sk, hL, hq⟩ := hS
  haveI : SeeL [] R dl (L.map encRow) := ⟨sl1⟩
  haveI : SeeQ [] R dc (C.map D.str) := ⟨sc⟩
  haveI : SeeQ [] R dg (G.map D.str) := ⟨sg⟩
  haveI : SeeQ [] R dk (K'.map D.str) := ⟨sk⟩
  row_cond dstart
  refine wss_cons ?_
  row_cond gon
  rename_i q
  refine ws_mid (fun Γ => ∃ a b c, Γ = ⟨[some dl, some dc, some dg, some dk, some (.int (redSure L C G K')), some (.ref q), a, b, c, none], [(q, .lst ((redRows L C G K').map encRowL))], R⟩) ?_ ?_
  · refine ws_forW hst (fun _ => rfl) ?_
    row_cond go
    refine ⟨fun i Γ => ∃ a b c, Γ = ⟨[some dl, some dc, some dg, some dk, some (.int (redSure (L.take i) C G K')), some (.ref q), a, b, c, none], [(q, .lst ((redRows (L.take i) C G K').map encRowL))], R⟩, ⟨_, _, _, rfl⟩, ?_, fun i x Γ hx hW => ?_, fun Γ hW => ?_⟩
    · rintro i Γ ⟨a, b, c, rfl⟩
      exact (inferInstance : SeeL _ _ _ _).see
    · obtain ⟨a, b, c, rfl⟩ := hW
      rw [List.getElem?_map] at hx
      obtain ⟨r, hr, rfl⟩ := Option.map_eq_some_iff.mp hx
      obtain ⟨h1, h2, h3⟩ := hL.2 r (List.mem_of_getElem? hr)
      have hs := sumIf_at (fun l => redOk C K' l && decide ((redCut G l).length = 0)) hr
      have hm := redRows_at (C := C) (G := G) (K := K') hr
      row_cond go
      refine we_lc' hst (own := [("name", 9)]) (nm.blk (by decide +kernel)) (fun _ => rfl) rfl ?_
      row_cond go
      refine lc_mapG D.bl (fun n : Str => decide (n ∈ C) && !decide (n ∈ K')) hX (by rw [nm.N]; rfl) (.inl rfl) (fun _ _ => .self _) (by omega) (fun a j y acc hy => put_go fun X' hb => ?_) (fun a => ?_)
      ·
        have hX_X' := hb.inn hX
        have hst_X' := hX_X'.std
        have n_name_X' : NameAt X' 9 "name" := hb.name (by rw [nm.N]; rfl) (by first | exact .inl rfl | exact .inr (.inl rfl) | exact .inr (.inr rfl)) (by decide) (by decide)
        have s_name_X' : StoreAt X' 9 "name" := hb.store (by rw [nm.N]; rfl) (by first | exact .inl rfl | exact .inr rfl)
        have n_candidates_X' : NameAt X' 1 "candidates" := hb.name (by rw [nm.N]; rfl) (by first | exact .inl rfl | exact .inr (.inl rfl) | exact .inr (.inr rfl)) (by decide) (by decide)
        have n_kept_X' : NameAt X' 3 "kept" := hb.name (by rw [nm.N]; rfl) (by first | exact .inl rfl | exact .inr (.inl rfl) | exact .inr (.inr rfl)) (by decide) (by decide)
        row_cond go
        · rename_i h; exact ⟨by simp [h], _, rfl⟩
        · rename_i h; exact ⟨by simp [h], _, rfl⟩
      row_cond go
      rw [all_map_id]
      refine ⟨fun hc => ?_, fun hc => ?_⟩
      · refine wss_cons ?_
        refine ws_setLc' (i := 8) hst (own := [("name", 9)]) (by rw [nm.N]; rfl) (by rw [nm.sc]; rfl) (nm.swaps (by decide +kernel)) (nm.blk (by decide +kernel)) (fun _ => rfl) rfl ?_
        row_cond go
        refine lc_filter hX (by rw [nm.N]; rfl) (.inl rfl) (fun n : Str => !decide (n ∈ G)) D.str (fun _ _ => .self _) (by omega) (fun a j y acc hy => put_go fun X' hb => ?_) (fun a => ?_)
        ·
          have hX_X' := hb.inn hX
          have hst_X' := hX_X'.std
          have n_name_X' : NameAt X' 9 "name" := hb.name (by rw [nm.N]; rfl) (by first | exact .inl rfl | exact .inr (.inl rfl) | exact .inr (.inr rfl)) (by decide) (by decide)
          have s_name_X' : StoreAt X' 9 "name" := hb.store (by rw [nm.N]; rfl) (by first | exact .inl rfl | exact .inr rfl)
          have n_gone_X' : NameAt X' 2 "gone" := hb.name (by rw [nm.N]; rfl) (by first | exact .inl rfl | exact .inr (.inl rfl) | exact .inr (.inr rfl)) (by decide) (by decide)
          row_cond go
          refine ⟨rfl, _, rfl, fun _ X2 hb2 => ?_⟩
          have hX_X2 := hb2.inn hX
          have hst_X2 := hX_X2.std
          have n_name_X2 : NameAt X2 9 "name" := hb2.name (by rw [nm.N]; rfl) (by first | exact .inl rfl | exact .inr (.inl rfl) | exact .inr (.inr rfl)) (by decide) (by decide)
          have s_name_X2 : StoreAt X2 9 "name" := hb2.store (by rw [nm.N]; rfl) (by first | exact .inl rfl | exact .inr rfl)
          have n_gone_X2 : NameAt X2 2 "gone" := hb2.name (by rw [nm.N]; rfl) (by first | exact .inl rfl | exact .inr (.inl rfl) | exact .inr (.inr rfl)) (by decide) (by decide)
          row_cond go
          exact ⟨rfl, _, rfl⟩
        have hcut : redOk C K' r.1 = true := hc
        row_cond go
        · rename_i hz
          have hz2 : (redCut G r.1).length = 0 := by show (List.filter _ _).length = 0; omega
          exact ⟨_, wk_sub (.cons _ (.cons _ (.refl _))), _, _, _, by unfold redSure; rw [hs, if_pos (by rw [hcut]; simp [hz2]), hm, if_neg (by simp [hz2]), List.append_nil]⟩
        · rename_i hz
          have hz2 : ¬ (redCut G r.1).length = 0 := fun z => hz (by have : (List.filter (fun n => !decide (n ∈ G)) r.1).length = 0 := z; omega)
          have hrows : (redRows (L.take i) C G K').length ≤ 1000 := by
            unfold redRows
            rw [List.length_map]
            refine Nat.le_trans (List.length_filter_le _ _) ?_
            rw [List.length_take]; have := hL.1; omega
          row_cond go
          exact ⟨_, wk_sub (.cons _ (.refl _)), _, _, _, by unfold redSure; rw [hs, if_neg (by simp [hz2]), Int.add_zero, hm, if_pos (by rw [hcut]; simp [hz2])]; rfl⟩
      · row_cond go
        have hcut : redOk C K' r.1 = false := hc
        exact ⟨_, wk_sub (.cons _ (.refl _)), _, _, _, by unfold redSure; rw [hs, if_neg (by rw [hcut]; simp), Int.add_zero, hm, if_neg (by rw [hcut]; simp), List.append_nil]⟩
    · obtain ⟨a, b, c, rfl⟩ := hW
      rw [List.length_map, List.take_length]
      exact ⟨_, _, _, rfl⟩
  rintro Γ ⟨a, b, c, rfl⟩
  obtain ⟨ok1, ok2⟩ := redRows_ok hL C G K'
  have hid := mkRows_id ok1 ok2
  refine wss_cons (ws_ret (we_tup ?_))
  row_cond go
  refine sp_led_go (rows_L _) ok1.1 (fun r hr => (ok1.2 r hr).2.1) fun p => ?_
  rw [hid]
  row_cond go
  exact rt1 (p := p) (hq p)

end K50


namespace K50
open PySem PySem.Spec PyProof.Rows L2 DL
local macro_rules | `(tactic| row_cond dcall) => `(tactic| first
  | ((with_reducible refine' we_callS (x := "make_lot") ?c ?x ?j ?g ?d ?e ?_); (case c => assumption); (case x => assumption); (case j => first | decide | exact Nat.le_refl _ | omega); (case g => assumption); (case d => decide); (case e => rfl))
  | ((with_reducible refine' we_call (x := "make_ledger") ?c ?x ?j ?g ?d ?e ?p ?_); (case c => assumption); (case x => assumption); (case j => first | decide | exact Nat.le_refl _ | omega); (case g => assumption); (case d => decide); (case e => rfl); (case p => rfl))
  | ((with_reducible refine' we_call (x := "freed") ?c ?x ?j ?g ?d ?e ?p ?_); (case c => assumption); (case x => assumption); (case j => first | decide | exact Nat.le_refl _ | omega); (case g => assumption); (case d => decide); (case e => rfl); (case p => rfl))
  | ((with_reducible refine' we_call (x := "reduced") ?c ?x ?j ?g ?d ?e ?p ?_); (case c => assumption); (case x => assumption); (case j => first | decide | exact Nat.le_refl _ | omega); (case g => assumption); (case d => decide); (case e => rfl); (case p => rfl))
  | ((with_reducible refine' we_call (x := "_law_mix") ?c ?x ?j ?g ?d ?e ?p ?_); (case c => assumption); (case x => assumption); (case j => first | decide | exact Nat.le_refl _ | omega); (case g => assumption); (case d => decide); (case e => rfl); (case p => rfl))
  | ((with_reducible refine' we_call (x := "_law_start") ?c ?x ?j ?g ?d ?e ?p ?_); (case c => assumption); (case x => assumption); (case j => first | decide | exact Nat.le_refl _ | omega); (case g => assumption); (case d => decide); (case e => rfl); (case p => rfl))
  | ((with_reducible refine' we_call1 (x := "_law_next") ?c ?x ?j ?g ?d ?e ?p ?_); (case c => assumption); (case x => assumption); (case j => first | decide | exact Nat.le_refl _ | omega); (case g => assumption); (case d => decide); (case e => rfl); (case p => rfl))
  | ((with_reducible refine' we_call (x := "_law_is") ?c ?x ?j ?g ?d ?e ?p ?_); (case c => assumption); (case x => assumption); (case j => first | decide | exact Nat.le_refl _ | omega); (case g => assumption); (case d => decide); (case e => rfl); (case p => rfl))
  | ((with_reducible refine' we_call1 (x := "_law_names") ?c ?x ?j ?g ?d ?e ?p ?_); (case c => assumption); (case x => assumption); (case j => first | decide | exact Nat.le_refl _ | omega); (case g => assumption); (case d => decide); (case e => rfl); (case p => rfl))
  | ((with_reducible refine' we_call1 (x := "_law_lot") ?c ?x ?j ?g ?d ?e ?p ?_); (case c => assumption); (case x => assumption); (case j => first | decide | exact Nat.le_refl _ | omega); (case g => assumption); (case d => decide); (case e => rfl); (case p => rfl))
  | ((with_reducible refine' we_call1 (x := "_law_ledger") ?c ?x ?j ?g ?d ?e ?p ?_); (case c => assumption); (case x => assumption); (case j => first | decide | exact Nat.le_refl _ | omega); (case g => assumption); (case d => decide); (case e => rfl); (case p => rfl))
  | ((with_reducible refine' we_call1 (x := "_law_turned") ?c ?x ?j ?g ?d ?e ?p ?_); (case c => assumption); (case x => assumption); (case j => first | decide | exact Nat.le_refl _ | omega); (case g => assumption); (case d => decide); (case e => rfl); (case p => rfl))
  | ((with_reducible refine' we_call (x := "_law_reduced") ?c ?x ?j ?g ?d ?e ?p ?_); (case c => assumption); (case x => assumption); (case j => first | decide | exact Nat.le_refl _ | omega); (case g => assumption); (case d => decide); (case e => rfl); (case p => rfl))
  | ((with_reducible refine' we_call (x := "_law_freed") ?c ?x ?j ?g ?d ?e ?p ?_); (case c => assumption); (case x => assumption); (case j => first | decide | exact Nat.le_refl _ | omega); (case g => assumption); (case d => decide); (case e => rfl); (case p => rfl))
  | ((with_reducible refine' we_call1 (x := "_law_lots") ?c ?x ?j ?g ?d ?e ?p ?_); (case c => assumption); (case x => assumption); (case j => first | decide | exact Nat.le_refl _ | omega); (case g => assumption); (case d => decide); (case e => rfl); (case p => rfl))
  | ((with_reducible refine' we_call (x := "law") ?c ?x ?j ?g ?d ?e ?p ?_); (case c => assumption); (case x => assumption); (case j => first | decide | exact Nat.le_refl _ | omega); (case g => assumption); (case d => decide); (case e => rfl); (case p => rfl)))
/-! the steps: one line a construct -/
local macro_rules | `(tactic| row_cond dlen) => `(tactic| (intro ds M R Q h; first | (obtain ⟨h1, _⟩ := h; subst h1; rfl) | (obtain ⟨_, h1, _⟩ := h; subst h1; rfl) | (obtain ⟨_, _, h1, _⟩ := h; subst h1; rfl) | (obtain ⟨_, _, _, h1, _⟩ := h; subst h1; rfl) | (obtain ⟨_, _, _, _, h1, _⟩ := h; subst h1; rfl) | (obtain ⟨_, _, _, _, _, h1, _⟩ := h; subst h1; rfl) | (obtain ⟨_, _, _, _, _, _, h1, _⟩ := h; subst h1; rfl) | (obtain ⟨_, _, _, _, _, _, _, h1, _⟩ := h; subst h1; rfl) | (obtain ⟨_, _, _, _, _, _, _, _, h1, _⟩ := h; subst h1; rfl) | (obtain ⟨_, _, _, _, _, _, _, _, _, h1, _⟩ := h; subst h1; rfl) | (obtain ⟨_, _, _, _, _, _, _, _, _, _, h1, _⟩ := h; subst h1; rfl) | (obtain ⟨_, _, _, _, _, _, _, _, _, _, _, h1, _⟩ := h; subst h1; rfl) | (obtain ⟨_, _, _, _, _, _, _, _, _, _, _, _, h1, _⟩ := h; subst h1; rfl)))
local macro_rules | `(tactic| row_cond dsz) => `(tactic| first | exact Nat.le_of_ble_eq_true rfl | assumption | (simp only [List.length_map, List.length_cons, List.length_append, List.length_nil, List.length_reverse, List.length_take, List.length_drop, PySem.sizeLine]; omega))
/- expressions -/
local macro_rules | `(tactic| row_cond dE) => `(tactic| first
  | ((with_reducible refine' we_name ?n ?e ?_); (case n => assumption); (case e => rfl))
  | (with_reducible refine we_int ?_)
  | (with_reducible refine we_bl ?_)
  | (with_reducible refine we_str ?_)
  | (with_reducible refine we_non ?_)
  | (with_reducible refine we_bin ?_)
  | ((with_reducible refine' we_cmp ?n ?_); (case n => rfl))
  | (with_reducible refine we_slice ?_)
  | (with_reducible refine we_rev ?_)
  | ((with_reducible refine' we_ix ?n ?_); (case n => exact fun _ _ => rfl))
  | (with_reducible refine we_tupV ?_)
  | (with_reducible refine we_lstV ?_)
  | ((with_reducible refine' we_blt ?b ?n ?m ?_); (case b => assumption); (case n => rfl); (case m => rfl))
  | ((with_reducible refine' we_typ ?b ?n ?m ?_); (case b => assumption); (case n => rfl); (case m => rfl))
  | ((with_reducible refine' we_tyName ?b ?_); (case b => assumption))
  | (with_reducible refine we_one ?_)
  | (with_reducible refine we_and ?_)
  | (with_reducible refine we_or ?_)
  | (with_reducible refine we_not ?_)
  | (with_reducible refine we_ifexp ?_)
  | ((with_reducible refine' we_un ?n ?_); (case n => exact fun z => nomatch z))
  | row_cond dcall
  | ((with_reducible refine we_bm (T := "list") PySem.F.plainAttrs_list PySem.F.slot_list_append PySem.F.type_list_append ?a ?b ?c ?d ?e ?_); (case a => rfl); (case b => rfl); (case c => rfl); (case d => rfl); (case e => rfl))
  | ((with_reducible refine we_bm0 (T := "list") PySem.F.plainAttrs_list PySem.F.slot_list_pop PySem.F.type_list_pop ?a ?b ?_); (case a => rfl); (case b => rfl))
  | ((with_reducible refine we_bm (T := "list") PySem.F.plainAttrs_list PySem.F.slot_list_extend PySem.F.type_list_extend ?a ?b ?c ?d ?e ?_); (case a => rfl); (case b => rfl); (case c => rfl); (case d => rfl); (case e => rfl)))
/- tests -/
local macro_rules | `(tactic| row_cond dT) => `(tactic| first
  | ((with_reducible refine' wt_cmp ?n ?_); (case n => rfl))
  | (with_reducible refine wt_not ?_)
  | (with_reducible refine wt_bool ?_)
  | (with_reducible refine ww_and1 ?_)
  | (with_reducible refine ww_or1 ?_)
  | (with_reducible refine ww_and ?_)
  | (with_reducible refine ww_or ?_)
  | ((with_reducible refine' wt_val ?n ?_); (case n => exact fun _ => rfl)))
/- statements -/
local macro_rules | `(tactic| row_cond dS) => `(tactic| first
  | (with_reducible refine wss_cons ?_)
  | (with_reducible refine wss_nil ?_)
  | ((with_reducible refine' ws_set ?a ?n ?h ?_); (case a => assumption); (case n => assumption); (case h => rfl))
  | ((with_reducible refine' ws_sub ?h ?_); (case h => rfl))
  | ((with_reducible refine' ws_asg ?a ?n ?h ?_); (case a => rfl); (case n => rfl); (case h => rfl))
  | (with_reducible refine ws_if ?_)
  | row_cond dret
  | ((with_reducible refine' ws_expr ?h ?_); (case h => rfl))
  | (with_reducible refine ws_pass ?_)
  | (with_reducible refine ws_break ?_)
  | (with_reducible refine ws_continue ?_)
  | (with_reducible refine ws_retN ?_))
local macro_rules | `(tactic| row_cond dSn) => `(tactic| first
  | (with_reducible refine wss_cons ?_)
  | (with_reducible refine wss_nil ?_)
  | ((with_reducible refine' ws_set ?a ?n ?h ?_); (case a => assumption); (case n => assumption); (case h => rfl))
  | ((with_reducible refine' ws_sub ?h ?_); (case h => rfl))
  | ((with_reducible refine' ws_asg ?a ?n ?h ?_); (case a => rfl); (case n => rfl); (case h => rfl))
  | row_cond dret
  | ((with_reducible refine' ws_expr ?h ?_); (case h => rfl))
  | (with_reducible refine ws_pass ?_)
  | (with_reducible refine ws_break ?_)
  | (with_reducible refine ws_continue ?_)
  | (with_reducible refine ws_retN ?_))
/- arguments, targets, values -/
local macro_rules | `(tactic| row_cond dV) => `(tactic| first
  | (with_reducible refine wa_nil ?_)
  | ((with_reducible refine' wa_cons ?n ?_); (case n => rfl))
  | (with_reducible refine wav_nil ?_)
  | ((with_reducible refine' wav_cons ?n ?_); (case n => rfl))
  | (with_reducible refine put_go ?_)
  | (with_reducible refine fz_lst ?_)
  | (with_reducible refine fz_tup ?_)
  | (with_reducible refine fz_id ?_)
  | (with_reducible refine own0_go ?_)
  | (with_reducible refine own1_go ?_)
  | (with_reducible refine app_go ?_)
  | (with_reducible refine mset_go ?_)
  | ((with_reducible refine' wg_name ?a ?n ?_); (case a => assumption); (case n => assumption))
  | ((with_reducible refine' wg_tup ?a ?n ?h ?_); (case a => assumption); (case n => rfl); (case h => rfl))
  | (with_reducible refine wgs_nil ?_)
  | ((with_reducible refine' wgs_cons ?n ?_); (case n => rfl))
  | (with_reducible refine wpt_none ?_)
  | (with_reducible refine wpt_some ?_)
  | ((with_reducible refine' wset_list ?n ?_); (case n => first | rfl | row_cond dix)))
/- what is walked -/
local macro_rules | `(tactic| row_cond dI) => `(tactic| first
  | ((with_reducible refine' wi_range1 ?a ?b ?c ?_); (case a => exact BltAt.gl (by assumption)); (case b => exact BltAt.mg (by assumption)); (case c => rfl))
  | ((with_reducible refine' wi_range2 ?a ?b ?c ?d ?_); (case a => exact BltAt.gl (by assumption)); (case b => exact BltAt.mg (by assumption)); (case c => rfl); (case d => rfl))
  | (with_reducible refine wi_val ?_)
  | (with_reducible refine wiv_list ?_)
  | (with_reducible refine wiv_tup ?_)
  | (with_reducible refine wiv_seq ?_)
  | ((with_reducible refine' wgc_name ?a ?n ?h ?_); (case a => assumption); (case n => assumption); (case h => decide))
  | ((with_reducible refine' wgc_tup ?a ?n ?h ?_); (case a => assumption); (case n => rfl); (case h => rfl))
  | (with_reducible refine wgcs_nil ?_)
  | ((with_reducible refine' wgcs_cons ?n ?_); (case n => rfl))
  | (with_reducible refine wts_nil ?_)
  | (with_reducible refine wts_one ?_))
/- operations by values -/
local macro_rules | `(tactic| row_cond dO) => `(tactic| first
  | (with_reducible refine wo_add ?_)
  | (with_reducible refine wo_sub ?_)
  | ((with_reducible refine' wo_mulS ?n ?_); (case n => first | exact .inr ⟨by decide, by decide⟩ | exact .inl ⟨by decide, by decide⟩ | exact .inr ⟨by omega, by omega⟩ | exact .inl ⟨by omega, by omega⟩))
  | ((with_reducible refine' wo_fdiv ?n ?m ?_); (case n => first | decide | omega); (case m => first | decide | row_cond dlog))
  | ((with_reducible refine' wo_mod ?n ?_); (case n => first | decide | omega))
  | (with_reducible refine wo_powL ?_)
  | ((with_reducible refine' wo_pow ?n ?_); (case n => exact ⟨by decide, by decide, by decide⟩))
  | (with_reducible refine wo_xor ?_)
  | (with_reducible refine wo_lt ?_)
  | (with_reducible refine wo_le ?_)
  | (with_reducible refine wo_gt ?_)
  | (with_reducible refine wo_ge ?_)
  | (with_reducible refine wo_eqI ?_)
  | (with_reducible refine wo_neI ?_)
  | (with_reducible refine wo_eqS ?_)
  | (with_reducible refine wo_neS ?_)
  | (with_reducible refine wo_isN ?_)
  | (with_reducible refine wo_isnotN ?_)
  | (with_reducible refine wu_neg ?_)
  | (with_reducible refine wc_int ?_)
  | (with_reducible refine wc_intB ?_)
  | (with_reducible refine wc_abs ?_)
  | ((with_reducible refine' wc_max2 ?a ?_); (case a => assumption))
  | ((with_reducible refine' wc_min2 ?a ?_); (case a => assumption))
  | (with_reducible refine wc_list ?_)
  | (with_reducible refine wc_tuple ?_)
  | ((with_reducible refine' wc_lenS ?a ?_); (case a => row_cond dsz))
  | (with_reducible refine wc_lenM ?_)
  | (with_reducible refine wc_len ?_)
  | (with_reducible refine wc_isK ?_)
  | ((with_reducible refine' wc_allM ?a ?_); (case a => assumption))
  | ((with_reducible refine' wc_anyM ?a ?_); (case a => assumption))
  | ((with_reducible refine' wc_sum ?a ?_); (case a => assumption))
  | ((with_reducible refine' wx_list ?n ?_); (case n => row_cond dat))
  | ((with_reducible refine' wx_map ?a ?b ?_); (case a => omega); (case b => omega))
  | ((with_reducible refine' wx_seq ?a ?b ?_); (case a => omega); (case b => omega))
  | ((with_reducible refine' wx_tup ?n ?_); (case n => row_cond dat))
  | (with_reducible refine wsl_listM ?_)
  | (with_reducible refine wsl_list ?_)
  | (with_reducible refine wrev_goM ?_)
  | (with_reducible refine wrev_go ?_)
  | ((with_reducible refine' wo_catM ?n ?_); (case n => row_cond dsz))
  | ((with_reducible refine' wo_cat ?n ?_); (case n => row_cond dsz))
  | ((with_reducible refine' wm_append ?n ?_); (case n => row_cond dsz)))
local macro_rules | `(tactic| row_cond dat) => `(tactic| rfl)
local macro_rules | `(tactic| row_cond dix) => `(tactic| rfl)
local macro_rules | `(tactic| row_cond dlog) => `(tactic| first | decide | exact log_small (by omega) (by omega))
/- what stands between -/
local macro_rules | `(tactic| row_cond dQ) => `(tactic| first
  | (with_reducible refine ⟨_, rfl, ?_⟩)
  | (with_reducible refine br_true ?_)
  | (with_reducible refine br_false ?_)
  | (with_reducible refine rb_true ?_)
  | (with_reducible refine rb_false ?_)
  | ((with_reducible refine' br_dec ?_ ?_) <;> intro _)
  | ((with_reducible refine' br_ndec ?_ ?_) <;> intro _)
  | ((with_reducible refine' rb_dec ?_ ?_) <;> intro _)
  | ((with_reducible refine' rb_ndec ?_ ?_) <;> intro _)
  | (refine br_is rfl ?_)
  | (refine br_isnot rfl ?_)
  | (refine rb_is rfl ?_)
  | (refine rb_isnot rfl ?_)
  | ((with_reducible refine' ⟨⟨?a, ?b⟩, ?_⟩); (case a => omega); (case b => omega))
  | ((with_reducible refine' ⟨⟨?a, ?b, ?c, ?d⟩, ?_⟩); (case a => omega); (case b => omega); (case c => omega); (case d => omega))
  | (with_reducible refine app_go ?_)
  | (with_reducible refine ⟨tym_list, ?_⟩)
  | (with_reducible refine ⟨tym_str, ?_⟩)
  | ((with_reducible refine ⟨?n, ?_⟩); (case n => (show _ ≤ PySem.sizeLine); row_cond dsz))
  | (with_reducible intro _))
local macro_rules | `(tactic| row_cond dstart) => `(tactic| simp only [startD, List.map_cons, List.map_nil, List.length_cons, List.length_nil, List.cons_append, List.nil_append, Nat.zero_add, Nat.reduceAdd, Nat.reduceSub, List.replicate_succ, List.replicate_zero])
local macro_rules | `(tactic| row_cond d) => `(tactic| first | row_cond dE | row_cond dV | row_cond dO | row_cond dT | row_cond dS | row_cond dI | row_cond dmore | row_cond dspec | row_cond dQ)
local macro_rules | `(tactic| row_cond dn) => `(tactic| first | row_cond dE | row_cond dV | row_cond dO | row_cond dT | row_cond dSn | row_cond dI | row_cond dmore | row_cond dspec | row_cond dQ)
local macro_rules | `(tactic| row_cond gon) => `(tactic| repeat' (row_cond dn))
local macro_rules | `(tactic| row_cond go) => `(tactic| repeat' (row_cond d))
/- the later parts of the layer -/
local macro_rules | `(tactic| row_cond dE) => `(tactic| first
  | ((with_reducible refine' we_sortedSet ?a ?b ?c ?d ?e ?_); (case a => assumption); (case b => assumption); (case c => assumption); (case d => rfl); (case e => rfl))
  | ((with_reducible refine' we_get2 ?a ?b ?_); (case a => assumption); (case b => exact ⟨rfl, rfl, rfl, rfl⟩))
  | ((with_reducible refine' we_get1 ?a ?b ?_); (case a => assumption); (case b => exact ⟨rfl, rfl, rfl, rfl⟩))
  | ((with_reducible refine' we_pop1 ?b ?_); (case b => exact ⟨rfl, rfl, rfl, rfl⟩)))
local macro_rules | `(tactic| row_cond dO) => `(tactic| first
  | ((with_reducible refine' wc_sorted ?a ?b ?c ?_); (case a => assumption); (case b => decide); (case c => first | exact fun _ _ => trivial | assumption))
  | ((with_reducible refine' wsorted_go ?a ?_); (case a => first | assumption | omega))
  | ((with_reducible refine' wo_inD ?a ?b ?_); (case a => assumption); (case b => decide))
  | ((with_reducible refine' wo_ninD ?a ?b ?_); (case a => assumption); (case b => decide))
  | (with_reducible refine getD_K ?_)
  | (with_reducible refine getD_T ?_)
  | ((with_reducible refine' wsl_txt ?a ?_); (case a => row_cond dsz))
  | ((with_reducible refine' wx_strN ?a ?b ?c ?_); (case a => row_cond dsz); (case b => omega); (case c => first | omega | (simp only [PySem.Str.length]; omega)))
  | (with_reducible refine ⟨isDD_K, ?_⟩)
  | (with_reducible refine ⟨isDD_T, ?_⟩))
local macro_rules | `(tactic| row_cond dO) => `(tactic| first
  | ((with_reducible refine' wm_appendM ?n ?_); (case n => row_cond dsz)))
local macro_rules | `(tactic| row_cond dE) => `(tactic| ((with_reducible refine' we_con ?c ?_); (case c => assumption)))
local macro_rules | `(tactic| row_cond dV) => `(tactic| first
  | (with_reducible refine wk_nil ?_)
  | (with_reducible refine wk_cons ?_)
  | (with_reducible refine ⟨rfl, rfl, ?_⟩))
local macro_rules | `(tactic| row_cond dI) => `(tactic| ((with_reducible refine' wi_range3 ?a ?b ?c ?d ?_); (case a => exact BltAt.gl (by assumption)); (case b => exact BltAt.mg (by assumption)); (case c => rfl); (case d => rfl)))
local macro_rules | `(tactic| row_cond dO) => `(tactic| first
  | ((with_reducible refine' wc_lenS ?a ?_); (case a => row_cond dsz)))
local macro_rules | `(tactic| row_cond dO) => `(tactic| first
  | ((with_reducible refine' wo_addS ?a ?_); (case a => row_cond dsz)))
local macro_rules | `(tactic| row_cond dO) => `(tactic| first
  | ((with_reducible refine' wo_addS2 ?a ?_); (case a => first | decide | omega))
  | ((with_reducible refine' wsl_txt2 ?a ?_); (case a => first | decide | omega))
  | ((with_reducible refine' wc_lenS2 ?a ?_); (case a => first | decide | omega)))
local macro_rules | `(tactic| row_cond dE) => `(tactic| first
  | ((with_reducible refine we_bm (T := "str") PySem.F.plainAttrs_str PySem.F.slot_str_index PySem.F.type_str_index ?a ?b ?c ?d ?e ?_); (case a => rfl); (case b => rfl); (case c => rfl); (case d => rfl); (case e => rfl))
  | ((with_reducible refine we_bm (T := "str") PySem.F.plainAttrs_str PySem.F.slot_str_join PySem.F.type_str_join ?a ?b ?c ?d ?e ?_); (case a => rfl); (case b => rfl); (case c => rfl); (case d => rfl); (case e => rfl))
  | ((with_reducible refine we_bm (T := "str") PySem.F.plainAttrs_str PySem.F.slot_str_startswith PySem.F.type_str_startswith ?a ?b ?c ?d ?e ?_); (case a => rfl); (case b => rfl); (case c => rfl); (case d => rfl); (case e => rfl)))
local macro_rules | `(tactic| row_cond dO) => `(tactic| first
  | (with_reducible refine wm_starts ?_))
local macro_rules | `(tactic| row_cond dret) => `(tactic| (with_reducible refine ws_ret ?_))
local macro_rules | `(tactic| row_cond dO) => `(tactic| first
  | ((with_reducible refine' wx_asK ?a ?b ?_); (case a => assumption); (case b => assumption))
  | ((with_reducible refine' wo_inAsK ?a ?_); (case a => assumption))
  | ((with_reducible refine' wo_ninAsK ?a ?_); (case a => assumption))
  | ((with_reducible refine' wset_asK ?a ?b ?_); (case a => assumption); (case b => row_cond dsz))
  | (with_reducible refine getD_asK ?_)
  | ((with_reducible refine' popD_asK ?b ?_); (case b => assumption))
  | ((with_reducible refine' wx_asT ?a ?b ?_); (case a => assumption); (case b => assumption))
  | ((with_reducible refine' wo_inAsT ?a ?_); (case a => assumption))
  | ((with_reducible refine' wo_ninAsT ?a ?_); (case a => assumption))
  | ((with_reducible refine' wset_asT ?a ?b ?_); (case a => assumption); (case b => row_cond dsz))
  | (with_reducible refine getD_asT ?_)
  | ((with_reducible refine' wc_sortedAs ?a ?_); (case a => assumption)))
local macro_rules | `(tactic| row_cond dO) => `(tactic| first
  | (with_reducible refine wc_lenAsK ?_)
  | (with_reducible refine wc_lenAsT ?_))
local macro_rules | `(tactic| row_cond dI) => `(tactic| first
  | (with_reducible refine wiv_asK ?_))
local macro_rules | `(tactic| row_cond dV) => `(tactic| (with_reducible refine star_go ?_))
local macro_rules | `(tactic| row_cond dO) => `(tactic| first
  | ((with_reducible refine' wc_sortedAsT ?a ?b ?_); (case a => assumption); (case b => assumption))
  | ((with_reducible refine' wm_insert ?a ?b ?c ?_); (case a => row_cond dsz); (case b => omega); (case c => omega)))
local macro_rules | `(tactic| row_cond dE) => `(tactic| first
  | ((with_reducible refine we_bm (T := "list") PySem.F.plainAttrs_list PySem.F.slot_list_insert PySem.F.type_list_insert ?a ?b ?c ?d ?e ?_); (case a => rfl); (case b => rfl); (case c => rfl); (case d => rfl); (case e => rfl)))

theorem wt_wk {X : Cx} {F : Fr} {Γ : DL.Env} {c : Expr} {Q : Bool → DL.Env → Prop} (h : WT X F c Γ fun b Γ1 => ∃ Γ', Wk Γ1 Γ' ∧ Q b Γ') : WT X F c Γ Q := fun G σ H hh R hR => h G σ H hh R fun b Γ1 G1 H1 ⟨Γ2, a, q⟩ s h1 => hR b Γ2 G1 H1 q s (h1.weak a)
theorem we_wk {X : Cx} {F : Fr} {Γ : DL.Env} {e : Expr} {Q : D → DL.Env → Prop} (h : WE X F e Γ fun d Γ1 => ∃ Γ', Wk Γ1 Γ' ∧ Q d Γ') : WE X F e Γ Q := fun G σ H hh R hR => h G σ H hh R fun d Γ1 G1 v H1 ⟨Γ2, a, q⟩ s h1 r => hR d Γ2 G1 v H1 q s (h1.weak a) r

local macro_rules | `(tactic| row_cond dspec) => `(tactic| first
  | ((with_reducible refine' sp_law_next_go ?a ?b ?c ?_); (case a => assumption); (case b => first | decide | omega | (split <;> omega)); (case c => first | decide | omega | (split <;> omega)))
  | (with_reducible refine sp_law_mix_go ?_))
local macro_rules | `(tactic| row_cond dmore) => `(tactic| first
  | (with_reducible refine ⟨_, [], rfl, ?_⟩))

/-! ### the law's own sums -/
theorem filter_sum (p : Lot → Bool) (L : Lg) : ((L.filter fun r => p r.1).map (·.2)).sum = sumIf p L := rfl
def sp_law_freed : SpD := fun ds M R Q => ∃ (dl dn : D) (L : Lg) (xs : List Str), ds = [dl, dn] ∧ M = [] ∧ See [] R dl (.lst (L.map encRow)) ∧ SeqN R dn xs ∧ L.length ≤ 1000 ∧ (∀ r ∈ L, r.1.length ≤ 4000) ∧ Q (.int (sumIf (fun l => l.all fun n => decide (n ∈ xs)) L)) []
theorem cal_law_freed {P : Program} {w : World} {K : PySem.W.Frag} {mg : Str → Option Value} {base : Heap} (T : Tx mg) (Da : DefAt K mg "_law_freed" s_law_freed)  : Cal P w K mg base (1) "_law_freed" sp_law_freed := by
  refine calD (k := 0) Da sc_law_freed (fun f fd Fu => Fu.binds fun _ _ _ _ _ _ us hl => match us, hl with | [_, _], _ => rfl) (by row_cond dlen) (fun X F hX nm ds M R Q hS => ?_)
  have hst := hX.std
  have n_ledger : NameAt X 0 "ledger" := nm.name rfl (.inl rfl) (by decide) (by decide)
  have s_ledger : StoreAt X 0 "ledger" := nm.store rfl (.inl rfl)
  have n_names : NameAt X 1 "names" := nm.name rfl (.inr rfl) (by decide) (by decide)
  have s_names : StoreAt X 1 "names" := nm.store rfl (.inr rfl)
  have b_sum : BltAt X "sum" (.builtin "sum") := nm.blt hX rfl T.z_sum bo_sum (by decide) (by decide)
  obtain ⟨dl, dn, L, xs, rfl, rfl, sl1, sn, hz, hz3, hq⟩ := hS
  haveI : SeeL [] R dl (L.map encRow) := ⟨sl1⟩
  haveI : SeeQ [] R dn (xs.map D.str) := ⟨sn⟩
  row_cond dstart
  refine wss_cons ?_
  row_cond go
  refine we_lc' hst (own := [("lot", 2), ("count", 3)]) (nm.blk (by decide +kernel)) (fun _ => rfl) rfl ?_
  row_cond go
  refine lc_filter2 hX (by rw [nm.N]; rfl) (.inl rfl) (by rw [nm.N]; rfl) (.inl rfl) (fun r : Lot × Int => r.1.all fun n => decide (n ∈ xs)) (fun r => D.int r.2) (fun r => encLot r.1) (fun r => D.int r.2) (fun _ => rfl) (fun _ _ => (inferInstance : SeeL _ _ _ _).see) (by omega) (fun a j r acc hr => put_go (put_go fun X' hb => ?_)) (fun a => ?_)
  ·
    have hrl := hz3 r (List.mem_of_getElem? hr)
    have hX_X' := hb.inn hX
    have hst_X' := hX_X'.std
    have n_lot_X' : NameAt X' 2 "lot" := hb.name (by rw [nm.N]; rfl) (by first | exact .inl rfl | exact .inr (.inl rfl) | exact .inr (.inr rfl)) (by decide) (by decide)
    have s_lot_X' : StoreAt X' 2 "lot" := hb.store (by rw [nm.N]; rfl) (by first | exact .inl rfl | exact .inr rfl)
    have n_count_X' : NameAt X' 3 "count" := hb.name (by rw [nm.N]; rfl) (by first | exact .inl rfl | exact .inr (.inl rfl) | exact .inr (.inr rfl)) (by decide) (by decide)
    have s_count_X' : StoreAt X' 3 "count" := hb.store (by rw [nm.N]; rfl) (by first | exact .inl rfl | exact .inr rfl)
    have b_all_X' : BltAt X' "all" (.builtin "all") := hb.blt' hX rfl T.z_all bo_all (by decide) (by decide)
    have n_names_X' : NameAt X' 1 "names" := hb.name (by rw [nm.N]; rfl) (by first | exact .inl rfl | exact .inr (.inl rfl) | exact .inr (.inr rfl)) (by decide) (by decide)
    refine wt_wk ?_
    row_cond go
    refine we_lc' hst_X' (own := [("name", 4)]) (blk_blk nm hb (by decide +kernel)) (fun _ => rfl) rfl ?_
    row_cond go
    refine lc_mapG D.bl (fun n : Str => decide (n ∈ xs)) hX_X' (by rw [blk_N hb, nm.N]; rfl) (.inl rfl) (fun _ _ => .self _) (by omega) (fun b i y acc2 hy => put_go fun X2 hb2 => ?_) (fun b => ?_)
    ·
      have hX_X2 := hb2.inn hX_X'
      have hst_X2 := hX_X2.std
      have n_name_X2 : NameAt X2 4 "name" := hb2.name (by rw [blk_N hb, nm.N]; rfl) (by first | exact .inl rfl | exact .inr (.inl rfl) | exact .inr (.inr rfl)) (by decide) (by decide)
      have s_name_X2 : StoreAt X2 4 "name" := hb2.store (by rw [blk_N hb, nm.N]; rfl) (by first | exact .inl rfl | exact .inr rfl)
      have n_names_X2 : NameAt X2 1 "names" := hb2.name (by rw [blk_N hb, nm.N]; rfl) (by first | exact .inl rfl | exact .inr (.inl rfl) | exact .inr (.inr rfl)) (by decide) (by decide)
      row_cond go
      exact ⟨rfl, _, rfl⟩
    · row_cond go
      rw [all_map_id]
      refine ⟨_, wk_sub (.cons _ (.refl _)), rfl, _, rfl, fun _ X3 hb3 => ?_⟩
      have hX_X3 := hb3.inn hX
      have hst_X3 := hX_X3.std
      have n_lot_X3 : NameAt X3 2 "lot" := hb3.name (by rw [nm.N]; rfl) (by first | exact .inl rfl | exact .inr (.inl rfl) | exact .inr (.inr rfl)) (by decide) (by decide)
      have s_lot_X3 : StoreAt X3 2 "lot" := hb3.store (by rw [nm.N]; rfl) (by first | exact .inl rfl | exact .inr rfl)
      have n_count_X3 : NameAt X3 3 "count" := hb3.name (by rw [nm.N]; rfl) (by first | exact .inl rfl | exact .inr (.inl rfl) | exact .inr (.inr rfl)) (by decide) (by decide)
      have s_count_X3 : StoreAt X3 3 "count" := hb3.store (by rw [nm.N]; rfl) (by first | exact .inl rfl | exact .inr rfl)
      have b_all_X3 : BltAt X3 "all" (.builtin "all") := hb3.blt' hX rfl T.z_all bo_all (by decide) (by decide)
      have n_names_X3 : NameAt X3 1 "names" := hb3.name (by rw [nm.N]; rfl) (by first | exact .inl rfl | exact .inr (.inl rfl) | exact .inr (.inr rfl)) (by decide) (by decide)
      row_cond go
      exact ⟨rfl, _, rfl⟩
  · rw [show ((L.filter fun r : Lot × Int => r.1.all fun n => decide (n ∈ xs)).map fun r => D.int r.2) = ((L.filter fun r : Lot × Int => r.1.all fun n => decide (n ∈ xs)).map (·.2)).map D.int by rw [List.map_map]; rfl]
    row_cond go
    exact rt0 hq

end K50


namespace K50
open PySem PySem.Spec PyProof.Rows L2 DL
local macro_rules | `(tactic| row_cond dcall) => `(tactic| first
  | ((with_reducible refine' we_callS (x := "make_lot") ?c ?x ?j ?g ?d ?e ?_); (case c => assumption); (case x => assumption); (case j => first | decide | exact Nat.le_refl _ | omega); (case g => assumption); (case d => decide); (case e => rfl))
  | ((with_reducible refine' we_call (x := "make_ledger") ?c ?x ?j ?g ?d ?e ?p ?_); (case c => assumption); (case x => assumption); (case j => first | decide | exact Nat.le_refl _ | omega); (case g => assumption); (case d => decide); (case e => rfl); (case p => rfl))
  | ((with_reducible refine' we_call (x := "freed") ?c ?x ?j ?g ?d ?e ?p ?_); (case c => assumption); (case x => assumption); (case j => first | decide | exact Nat.le_refl _ | omega); (case g => assumption); (case d => decide); (case e => rfl); (case p => rfl))
  | ((with_reducible refine' we_call (x := "reduced") ?c ?x ?j ?g ?d ?e ?p ?_); (case c => assumption); (case x => assumption); (case j => first | decide | exact Nat.le_refl _ | omega); (case g => assumption); (case d => decide); (case e => rfl); (case p => rfl))
  | ((with_reducible refine' we_call (x := "_law_mix") ?c ?x ?j ?g ?d ?e ?p ?_); (case c => assumption); (case x => assumption); (case j => first | decide | exact Nat.le_refl _ | omega); (case g => assumption); (case d => decide); (case e => rfl); (case p => rfl))
  | ((with_reducible refine' we_call (x := "_law_start") ?c ?x ?j ?g ?d ?e ?p ?_); (case c => assumption); (case x => assumption); (case j => first | decide | exact Nat.le_refl _ | omega); (case g => assumption); (case d => decide); (case e => rfl); (case p => rfl))
  | ((with_reducible refine' we_call1 (x := "_law_next") ?c ?x ?j ?g ?d ?e ?p ?_); (case c => assumption); (case x => assumption); (case j => first | decide | exact Nat.le_refl _ | omega); (case g => assumption); (case d => decide); (case e => rfl); (case p => rfl))
  | ((with_reducible refine' we_call (x := "_law_is") ?c ?x ?j ?g ?d ?e ?p ?_); (case c => assumption); (case x => assumption); (case j => first | decide | exact Nat.le_refl _ | omega); (case g => assumption); (case d => decide); (case e => rfl); (case p => rfl))
  | ((with_reducible refine' we_call1 (x := "_law_names") ?c ?x ?j ?g ?d ?e ?p ?_); (case c => assumption); (case x => assumption); (case j => first | decide | exact Nat.le_refl _ | omega); (case g => assumption); (case d => decide); (case e => rfl); (case p => rfl))
  | ((with_reducible refine' we_call1 (x := "_law_lot") ?c ?x ?j ?g ?d ?e ?p ?_); (case c => assumption); (case x => assumption); (case j => first | decide | exact Nat.le_refl _ | omega); (case g => assumption); (case d => decide); (case e => rfl); (case p => rfl))
  | ((with_reducible refine' we_call1 (x := "_law_ledger") ?c ?x ?j ?g ?d ?e ?p ?_); (case c => assumption); (case x => assumption); (case j => first | decide | exact Nat.le_refl _ | omega); (case g => assumption); (case d => decide); (case e => rfl); (case p => rfl))
  | ((with_reducible refine' we_call1 (x := "_law_turned") ?c ?x ?j ?g ?d ?e ?p ?_); (case c => assumption); (case x => assumption); (case j => first | decide | exact Nat.le_refl _ | omega); (case g => assumption); (case d => decide); (case e => rfl); (case p => rfl))
  | ((with_reducible refine' we_call (x := "_law_reduced") ?c ?x ?j ?g ?d ?e ?p ?_); (case c => assumption); (case x => assumption); (case j => first | decide | exact Nat.le_refl _ | omega); (case g => assumption); (case d => decide); (case e => rfl); (case p => rfl))
  | ((with_reducible refine' we_call (x := "_law_freed") ?c ?x ?j ?g ?d ?e ?p ?_); (case c => assumption); (case x => assumption); (case j => first | decide | exact Nat.le_refl _ | omega); (case g => assumption); (case d => decide); (case e => rfl); (case p => rfl))
  | ((with_reducible refine' we_call1 (x := "_law_lots") ?c ?x ?j ?g ?d ?e ?p ?_); (case c => assumption); (case x => assumption); (case j => first | decide | exact Nat.le_refl _ | omega); (case g => assumption); (case d => decide); (case e => rfl); (case p => rfl))
  | ((with_reducible refine' we_call (x := "law") ?c ?x ?j ?g ?d ?e ?p ?_); (case c => assumption); (case x => assumption); (case j => first | decide | exact Nat.le_refl _ | omega); (case g => assumption); (case d => decide); (case e => rfl); (case p => rfl)))
/-! the steps: one line a construct -/
local macro_rules | `(tactic| row_cond dlen) => `(tactic| (intro ds M R Q h; first | (obtain ⟨h1, _⟩ := h; subst h1; rfl) | (obtain ⟨_, h1, _⟩ := h; subst h1; rfl) | (obtain ⟨_, _, h1, _⟩ := h; subst h1; rfl) | (obtain ⟨_, _, _, h1, _⟩ := h; subst h1; rfl) | (obtain ⟨_, _, _, _, h1, _⟩ := h; subst h1; rfl) | (obtain ⟨_, _, _, _, _, h1, _⟩ := h; subst h1; rfl) | (obtain ⟨_, _, _, _, _, _, h1, _⟩ := h; subst h1; rfl) | (obtain ⟨_, _, _, _, _, _, _, h1, _⟩ := h; subst h1; rfl) | (obtain ⟨_, _, _, _, _, _, _, _, h1, _⟩ := h; subst h1; rfl) | (obtain ⟨_, _, _, _, _, _, _, _, _, h1, _⟩ := h; subst h1; rfl) | (obtain ⟨_, _, _, _, _, _, _, _, _, _, h1, _⟩ := h; subst h1; rfl) | (obtain ⟨_, _, _, _, _, _, _, _, _, _, _, h1, _⟩ := h; subst h1; rfl) | (obtain ⟨_, _, _, _, _, _, _, _, _, _, _, _, h1, _⟩ := h; subst h1; rfl)))
local macro_rules | `(tactic| row_cond dsz) => `(tactic| first | exact Nat.le_of_ble_eq_true rfl | assumption | (simp only [List.length_map, List.length_cons, List.length_append, List.length_nil, List.length_reverse, List.length_take, List.length_drop, PySem.sizeLine]; omega))
/- expressions -/
local macro_rules | `(tactic| row_cond dE) => `(tactic| first
  | ((with_reducible refine' we_name ?n ?e ?_); (case n => assumption); (case e => rfl))
  | (with_reducible refine we_int ?_)
  | (with_reducible refine we_bl ?_)
  | (with_reducible refine we_str ?_)
  | (with_reducible refine we_non ?_)
  | (with_reducible refine we_bin ?_)
  | ((with_reducible refine' we_cmp ?n ?_); (case n => rfl))
  | (with_reducible refine we_slice ?_)
  | (with_reducible refine we_rev ?_)
  | ((with_reducible refine' we_ix ?n ?_); (case n => exact fun _ _ => rfl))
  | (with_reducible refine we_tupV ?_)
  | (with_reducible refine we_lstV ?_)
  | ((with_reducible refine' we_blt ?b ?n ?m ?_); (case b => assumption); (case n => rfl); (case m => rfl))
  | ((with_reducible refine' we_typ ?b ?n ?m ?_); (case b => assumption); (case n => rfl); (case m => rfl))
  | ((with_reducible refine' we_tyName ?b ?_); (case b => assumption))
  | (with_reducible refine we_one ?_)
  | (with_reducible refine we_and ?_)
  | (with_reducible refine we_or ?_)
  | (with_reducible refine we_not ?_)
  | (with_reducible refine we_ifexp ?_)
  | ((with_reducible refine' we_un ?n ?_); (case n => exact fun z => nomatch z))
  | row_cond dcall
  | ((with_reducible refine we_bm (T := "list") PySem.F.plainAttrs_list PySem.F.slot_list_append PySem.F.type_list_append ?a ?b ?c ?d ?e ?_); (case a => rfl); (case b => rfl); (case c => rfl); (case d => rfl); (case e => rfl))
  | ((with_reducible refine we_bm0 (T := "list") PySem.F.plainAttrs_list PySem.F.slot_list_pop PySem.F.type_list_pop ?a ?b ?_); (case a => rfl); (case b => rfl))
  | ((with_reducible refine we_bm (T := "list") PySem.F.plainAttrs_list PySem.F.slot_list_extend PySem.F.type_list_extend ?a ?b ?c ?d ?e ?_); (case a => rfl); (case b => rfl); (case c => rfl); (case d => rfl); (case e => rfl)))
/- tests -/
local macro_rules | `(tactic| row_cond dT) => `(tactic| first
  | ((with_reducible refine' wt_cmp ?n ?_); (case n => rfl))
  | (with_reducible refine wt_not ?_)
  | (with_reducible refine wt_bool ?_)
  | (with_reducible refine ww_and1 ?_)
  | (with_reducible refine ww_or1 ?_)
  | (with_reducible refine ww_and ?_)
  | (with_reducible refine ww_or ?_)
  | ((with_reducible refine' wt_val ?n ?_); (case n => exact fun _ => rfl)))
/- statements -/
local macro_rules | `(tactic| row_cond dS) => `(tactic| first
  | (with_reducible refine wss_cons ?_)
  | (with_reducible refine wss_nil ?_)
  | ((with_reducible refine' ws_set ?a ?n ?h ?_); (case a => assumption); (case n => assumption); (case h => rfl))
  | ((with_reducible refine' ws_sub ?h ?_); (case h => rfl))
  | ((with_reducible refine' ws_asg ?a ?n ?h ?_); (case a => rfl); (case n => rfl); (case h => rfl))
  | (with_reducible refine ws_if ?_)
  | row_cond dret
  | ((with_reducible refine' ws_expr ?h ?_); (case h => rfl))
  | (with_reducible refine ws_pass ?_)
  | (with_reducible refine ws_break ?_)
  | (with_reducible refine ws_continue ?_)
  | (with_reducible refine ws_retN ?_))
local macro_rules | `(tactic| row_cond dSn) => `(tactic| first
  | (with_reducible refine wss_cons ?_)
  | (with_reducible refine wss_nil ?_)
  | ((with_reducible refine' ws_set ?a ?n ?h ?_); (case a => assumption); (case n => assumption); (case h => rfl))
  | ((with_reducible refine' ws_sub ?h ?_); (case h => rfl))
  | ((with_reducible refine' ws_asg ?a ?n ?h ?_); (case a => rfl); (case n => rfl); (case h => rfl))
  | row_cond dret
  | ((with_reducible refine' ws_expr ?h ?_); (case h => rfl))
  | (with_reducible refine ws_pass ?_)
  | (with_reducible refine ws_break ?_)
  | (with_reducible refine ws_continue ?_)
  | (with_reducible refine ws_retN ?_))
/- arguments, targets, values -/
local macro_rules | `(tactic| row_cond dV) => `(tactic| first
  | (with_reducible refine wa_nil ?_)
  | ((with_reducible refine' wa_cons ?n ?_); (case n => rfl))
  | (with_reducible refine wav_nil ?_)
  | ((with_reducible refine' wav_cons ?n ?_); (case n => rfl))
  | (with_reducible refine put_go ?_)
  | (with_reducible refine fz_lst ?_)
  | (with_reducible refine fz_tup ?_)
  | (with_reducible refine fz_id ?_)
  | (with_reducible refine own0_go ?_)
  | (with_reducible refine own1_go ?_)
  | (with_reducible refine app_go ?_)
  | (with_reducible refine mset_go ?_)
  | ((with_reducible refine' wg_name ?a ?n ?_); (case a => assumption); (case n => assumption))
  | ((with_reducible refine' wg_tup ?a ?n ?h ?_); (case a => assumption); (case n => rfl); (case h => rfl))
  | (with_reducible refine wgs_nil ?_)
  | ((with_reducible refine' wgs_cons ?n ?_); (case n => rfl))
  | (with_reducible refine wpt_none ?_)
  | (with_reducible refine wpt_some ?_)
  | ((with_reducible refine' wset_list ?n ?_); (case n => first | rfl | row_cond dix)))
/- what is walked -/
local macro_rules | `(tactic| row_cond dI) => `(tactic| first
  | ((with_reducible refine' wi_range1 ?a ?b ?c ?_); (case a => exact BltAt.gl (by assumption)); (case b => exact BltAt.mg (by assumption)); (case c => rfl))
  | ((with_reducible refine' wi_range2 ?a ?b ?c ?d ?_); (case a => exact BltAt.gl (by assumption)); (case b => exact BltAt.mg (by assumption)); (case c => rfl); (case d => rfl))
  | (with_reducible refine wi_val ?_)
  | (with_reducible refine wiv_list ?_)
  | (with_reducible refine wiv_tup ?_)
  | (with_reducible refine wiv_seq ?_)
  | ((with_reducible refine' wgc_name ?a ?n ?h ?_); (case a => assumption); (case n => assumption); (case h => decide))
  | ((with_reducible refine' wgc_tup ?a ?n ?h ?_); (case a => assumption); (case n => rfl); (case h => rfl))
  | (with_reducible refine wgcs_nil ?_)
  | ((with_reducible refine' wgcs_cons ?n ?_); (case n => rfl))
  | (with_reducible refine wts_nil ?_)
  | (with_reducible refine wts_one ?_))
/- operations by values -/
local macro_rules | `(tactic| row_cond dO) => `(tactic| first
  | (with_reducible refine wo_add ?_)
  | (with_reducible refine wo_sub ?_)
  | ((with_reducible refine' wo_mulS ?n ?_); (case n => first | exact .inr ⟨by decide, by decide⟩ | exact .inl ⟨by decide, by decide⟩ | exact .inr ⟨by omega, by omega⟩ | exact .inl ⟨by omega, by omega⟩))
  | ((with_reducible refine' wo_fdiv ?n ?m ?_); (case n => first | decide | omega); (case m => first | decide | row_cond dlog))
  | ((with_reducible refine' wo_mod ?n ?_); (case n => first | decide | omega))
  | (with_reducible refine wo_powL ?_)
  | ((with_reducible refine' wo_pow ?n ?_); (case n => exact ⟨by decide, by decide, by decide⟩))
  | (with_reducible refine wo_xor ?_)
  | (with_reducible refine wo_lt ?_)
  | (with_reducible refine wo_le ?_)
  | (with_reducible refine wo_gt ?_)
  | (with_reducible refine wo_ge ?_)
  | (with_reducible refine wo_eqI ?_)
  | (with_reducible refine wo_neI ?_)
  | (with_reducible refine wo_eqS ?_)
  | (with_reducible refine wo_neS ?_)
  | (with_reducible refine wo_isN ?_)
  | (with_reducible refine wo_isnotN ?_)
  | (with_reducible refine wu_neg ?_)
  | (with_reducible refine wc_int ?_)
  | (with_reducible refine wc_intB ?_)
  | (with_reducible refine wc_abs ?_)
  | ((with_reducible refine' wc_max2 ?a ?_); (case a => assumption))
  | ((with_reducible refine' wc_min2 ?a ?_); (case a => assumption))
  | (with_reducible refine wc_list ?_)
  | (with_reducible refine wc_tuple ?_)
  | ((with_reducible refine' wc_lenS ?a ?_); (case a => row_cond dsz))
  | (with_reducible refine wc_lenM ?_)
  | (with_reducible refine wc_len ?_)
  | (with_reducible refine wc_isK ?_)
  | ((with_reducible refine' wc_allM ?a ?_); (case a => assumption))
  | ((with_reducible refine' wc_anyM ?a ?_); (case a => assumption))
  | ((with_reducible refine' wc_sum ?a ?_); (case a => assumption))
  | ((with_reducible refine' wx_list ?n ?_); (case n => row_cond dat))
  | ((with_reducible refine' wx_map ?a ?b ?_); (case a => omega); (case b => omega))
  | ((with_reducible refine' wx_seq ?a ?b ?_); (case a => omega); (case b => omega))
  | ((with_reducible refine' wx_tup ?n ?_); (case n => row_cond dat))
  | (with_reducible refine wsl_listM ?_)
  | (with_reducible refine wsl_list ?_)
  | (with_reducible refine wrev_goM ?_)
  | (with_reducible refine wrev_go ?_)
  | ((with_reducible refine' wo_catM ?n ?_); (case n => row_cond dsz))
  | ((with_reducible refine' wo_cat ?n ?_); (case n => row_cond dsz))
  | ((with_reducible refine' wm_append ?n ?_); (case n => row_cond dsz)))
local macro_rules | `(tactic| row_cond dat) => `(tactic| rfl)
local macro_rules | `(tactic| row_cond dix) => `(tactic| rfl)
local macro_rules | `(tactic| row_cond dlog) => `(tactic| first | decide | exact log_small (by omega) (by omega))
/- what stands between -/
local macro_rules | `(tactic| row_cond dQ) => `(tactic| first
  | (with_reducible refine ⟨_, rfl, ?_⟩)
  | (with_reducible refine br_true ?_)
  | (with_reducible refine br_false ?_)
  | (with_reducible refine rb_true ?_)
  | (with_reducible refine rb_false ?_)
  | ((with_reducible refine' br_dec ?_ ?_) <;> intro _)
  | ((with_reducible refine' br_ndec ?_ ?_) <;> intro _)
  | ((with_reducible refine' rb_dec ?_ ?_) <;> intro _)
  | ((with_reducible refine' rb_ndec ?_ ?_) <;> intro _)
  | (refine br_is rfl ?_)
  | (refine br_isnot rfl ?_)
  | (refine rb_is rfl ?_)
  | (refine rb_isnot rfl ?_)
  | ((with_reducible refine' ⟨⟨?a, ?b⟩, ?_⟩); (case a => omega); (case b => omega))
  | ((with_reducible refine' ⟨⟨?a, ?b, ?c, ?d⟩, ?_⟩); (case a => omega); (case b => omega); (case c => omega); (case d => omega))
  | (with_reducible refine app_go ?_)
  | (with_reducible refine ⟨tym_list, ?_⟩)
  | (with_reducible refine ⟨tym_str, ?_⟩)
  | ((with_reducible refine ⟨?n, ?_⟩); (case n => (show _ ≤ PySem.sizeLine); row_cond dsz))
  | (with_reducible intro _))
local macro_rules | `(tactic| row_cond dstart) => `(tactic| simp only [startD, List.map_cons, List.map_nil, List.length_cons, List.length_nil, List.cons_append, List.nil_append, Nat.zero_add, Nat.reduceAdd, Nat.reduceSub, List.replicate_succ, List.replicate_zero])
local macro_rules | `(tactic| row_cond d) => `(tactic| first | row_cond dE | row_cond dV | row_cond dO | row_cond dT | row_cond dS | row_cond dI | row_cond dmore | row_cond dspec | row_cond dQ)
local macro_rules | `(tactic| row_cond dn) => `(tactic| first | row_cond dE | row_cond dV | row_cond dO | row_cond dT | row_cond dSn | row_cond dI | row_cond dmore | row_cond dspec | row_cond dQ)
local macro_rules | `(tactic| row_cond gon) => `(tactic| repeat' (row_cond dn))
local macro_rules | `(tactic| row_cond go) => `(tactic| repeat' (row_cond d))
/- the later parts of the layer -/
local macro_rules | `(tactic| row_cond dE) => `(tactic| first
  | ((with_reducible refine' we_sortedSet ?a ?b ?c ?d ?e ?_); (case a => assumption); (case b => assumption); (case c => assumption); (case d => rfl); (case e => rfl))
  | ((with_reducible refine' we_get2 ?a ?b ?_); (case a => assumption); (case b => exact ⟨rfl, rfl, rfl, rfl⟩))
  | ((with_reducible refine' we_get1 ?a ?b ?_); (case a => assumption); (case b => exact ⟨rfl, rfl, rfl, rfl⟩))
  | ((with_reducible refine' we_pop1 ?b ?_); (case b => exact ⟨rfl, rfl, rfl, rfl⟩)))
local macro_rules | `(tactic| row_cond dO) => `(tactic| first
  | ((with_reducible refine' wc_sorted ?a ?b ?c ?_); (case a => assumption); (case b => decide); (case c => first | exact fun _ _ => trivial | assumption))
  | ((with_reducible refine' wsorted_go ?a ?_); (case a => first | assumption | omega))
  | ((with_reducible refine' wo_inD ?a ?b ?_); (case a => assumption); (case b => decide))
  | ((with_reducible refine' wo_ninD ?a ?b ?_); (case a => assumption); (case b => decide))
  | (with_reducible refine getD_K ?_)
  | (with_reducible refine getD_T ?_)
  | ((with_reducible refine' wsl_txt ?a ?_); (case a => row_cond dsz))
  | ((with_reducible refine' wx_strN ?a ?b ?c ?_); (case a => row_cond dsz); (case b => omega); (case c => first | omega | (simp only [PySem.Str.length]; omega)))
  | (with_reducible refine ⟨isDD_K, ?_⟩)
  | (with_reducible refine ⟨isDD_T, ?_⟩))
local macro_rules | `(tactic| row_cond dO) => `(tactic| first
  | ((with_reducible refine' wm_appendM ?n ?_); (case n => row_cond dsz)))
local macro_rules | `(tactic| row_cond dE) => `(tactic| ((with_reducible refine' we_con ?c ?_); (case c => assumption)))
local macro_rules | `(tactic| row_cond dV) => `(tactic| first
  | (with_reducible refine wk_nil ?_)
  | (with_reducible refine wk_cons ?_)
  | (with_reducible refine ⟨rfl, rfl, ?_⟩))
local macro_rules | `(tactic| row_cond dI) => `(tactic| ((with_reducible refine' wi_range3 ?a ?b ?c ?d ?_); (case a => exact BltAt.gl (by assumption)); (case b => exact BltAt.mg (by assumption)); (case c => rfl); (case d => rfl)))
local macro_rules | `(tactic| row_cond dO) => `(tactic| first
  | ((with_reducible refine' wc_lenS ?a ?_); (case a => row_cond dsz)))
local macro_rules | `(tactic| row_cond dO) => `(tactic| first
  | ((with_reducible refine' wo_addS ?a ?_); (case a => row_cond dsz)))
local macro_rules | `(tactic| row_cond dO) => `(tactic| first
  | ((with_reducible refine' wo_addS2 ?a ?_); (case a => first | decide | omega))
  | ((with_reducible refine' wsl_txt2 ?a ?_); (case a => first | decide | omega))
  | ((with_reducible refine' wc_lenS2 ?a ?_); (case a => first | decide | omega)))
local macro_rules | `(tactic| row_cond dE) => `(tactic| first
  | ((with_reducible refine we_bm (T := "str") PySem.F.plainAttrs_str PySem.F.slot_str_index PySem.F.type_str_index ?a ?b ?c ?d ?e ?_); (case a => rfl); (case b => rfl); (case c => rfl); (case d => rfl); (case e => rfl))
  | ((with_reducible refine we_bm (T := "str") PySem.F.plainAttrs_str PySem.F.slot_str_join PySem.F.type_str_join ?a ?b ?c ?d ?e ?_); (case a => rfl); (case b => rfl); (case c => rfl); (case d => rfl); (case e => rfl))
  | ((with_reducible refine we_bm (T := "str") PySem.F.plainAttrs_str PySem.F.slot_str_startswith PySem.F.type_str_startswith ?a ?b ?c ?d ?e ?_); (case a => rfl); (case b => rfl); (case c => rfl); (case d => rfl); (case e => rfl)))
local macro_rules | `(tactic| row_cond dO) => `(tactic| first
  | (with_reducible refine wm_starts ?_))
local macro_rules | `(tactic| row_cond dret) => `(tactic| (with_reducible refine ws_ret ?_))
local macro_rules | `(tactic| row_cond dO) => `(tactic| first
  | ((with_reducible refine' wx_asK ?a ?b ?_); (case a => assumption); (case b => assumption))
  | ((with_reducible refine' wo_inAsK ?a ?_); (case a => assumption))
  | ((with_reducible refine' wo_ninAsK ?a ?_); (case a => assumption))
  | ((with_reducible refine' wset_asK ?a ?b ?_); (case a => assumption); (case b => row_cond dsz))
  | (with_reducible refine getD_asK ?_)
  | ((with_reducible refine' popD_asK ?b ?_); (case b => assumption))
  | ((with_reducible refine' wx_asT ?a ?b ?_); (case a => assumption); (case b => assumption))
  | ((with_reducible refine' wo_inAsT ?a ?_); (case a => assumption))
  | ((with_reducible refine' wo_ninAsT ?a ?_); (case a => assumption))
  | ((with_reducible refine' wset_asT ?a ?b ?_); (case a => assumption); (case b => row_cond dsz))
  | (with_reducible refine getD_asT ?_)
  | ((with_reducible refine' wc_sortedAs ?a ?_); (case a => assumption)))
local macro_rules | `(tactic| row_cond dO) => `(tactic| first
  | (with_reducible refine wc_lenAsK ?_)
  | (with_reducible refine wc_lenAsT ?_))
local macro_rules | `(tactic| row_cond dI) => `(tactic| first
  | (with_reducible refine wiv_asK ?_))
local macro_rules | `(tactic| row_cond dV) => `(tactic| (with_reducible refine star_go ?_))
local macro_rules | `(tactic| row_cond dO) => `(tactic| first
  | ((with_reducible refine' wc_sortedAsT ?a ?b ?_); (case a => assumption); (case b => assumption))
  | ((with_reducible refine' wm_insert ?a ?b ?c ?_); (case a => row_cond dsz); (case b => omega); (case c => omega)))
local macro_rules | `(tactic| row_cond dE) => `(tactic| first
  | ((with_reducible refine we_bm (T := "list") PySem.F.plainAttrs_list PySem.F.slot_list_insert PySem.F.type_list_insert ?a ?b ?c ?d ?e ?_); (case a => rfl); (case b => rfl); (case c => rfl); (case d => rfl); (case e => rfl)))

local macro_rules | `(tactic| row_cond dspec) => `(tactic| first
  | ((with_reducible refine' sp_law_next_go ?a ?b ?c ?_); (case a => assumption); (case b => first | decide | omega | (split <;> omega)); (case c => first | decide | omega | (split <;> omega)))
  | (with_reducible refine sp_law_mix_go ?_))
local macro_rules | `(tactic| row_cond dmore) => `(tactic| first
  | (with_reducible refine ⟨_, [], rfl, ?_⟩))

/-! ### the law's own table -/
def sp_law_reduced : SpD := fun ds M R Q => ∃ (dl dc dg dk : D) (L : Lg) (C G K : List Str), ds = [dl, dc, dg, dk] ∧ M = [] ∧ See [] R dl (.lst (L.map encRow)) ∧ SeqN R dc C ∧ SeqN R dg G ∧ SeqN R dk K ∧ LgOk L ∧ Q (.tup [.int (redSure L C G K), .lst ((srtL (tab (redRows L C G K))).map encRow)]) []
theorem gLot_ne {es rs : Lg} (h : ∀ r ∈ rs, 0 < r.1.length) (hk : ∀ l, l ∈ es.map (·.1) → l ∈ rs.map (·.1)) : ∀ e ∈ es, gLot e.1 ≠ [] := fun e he z => by
  obtain ⟨r, h2, h3⟩ := List.mem_map.mp (hk _ (List.mem_map_of_mem (f := Prod.fst) he))
  have h4 := h r h2
  rw [h3, List.map_eq_nil_iff.mp z] at h4
  exact absurd h4 (by simp)
theorem cal_law_reduced {P : Program} {w : World} {K : PySem.W.Frag} {mg : Str → Option Value} {base : Heap} (T : Tx mg) (Da : DefAt K mg "_law_reduced" s_law_reduced)  : Cal P w K mg base (1) "_law_reduced" sp_law_reduced := by
  refine calD (k := 0) Da sc_law_reduced (fun f fd Fu => Fu.binds fun _ _ _ _ _ _ us hl => match us, hl with | [_, _, _, _], _ => rfl) (by row_cond dlen) (fun X F hX nm ds M R Q hS => ?_)
  have hst := hX.std
  have n_ledger : NameAt X 0 "ledger" := nm.name rfl (.inl rfl) (by decide) (by decide)
  have s_ledger : StoreAt X 0 "ledger" := nm.store rfl (.inl rfl)
  have n_candidates : NameAt X 1 "candidates" := nm.name rfl (.inr rfl) (by decide) (by decide)
  have s_candidates : StoreAt X 1 "candidates" := nm.store rfl (.inr rfl)
  have n_gone : NameAt X 2 "gone" := nm.name rfl (.inr rfl) (by decide) (by decide)
  have s_gone : StoreAt X 2 "gone" := nm.store rfl (.inr rfl)
  have n_kept : NameAt X 3 "kept" := nm.name rfl (.inr rfl) (by decide) (by decide)
  have s_kept : StoreAt X 3 "kept" := nm.store rfl (.inr rfl)
  have n_sure : NameAt X 4 "sure" := nm.name rfl (.inl rfl) (by decide) (by decide)
  have s_sure : StoreAt X 4 "sure" := nm.store rfl (.inl rfl)
  have n_table : NameAt X 5 "table" := nm.name rfl (.inr rfl) (by decide) (by decide)
  have s_table : StoreAt X 5 "table" := nm.store rfl (.inr rfl)
  have n_lot : NameAt X 6 "lot" := nm.name rfl (.inl rfl) (by decide) (by decide)
  have s_lot : StoreAt X 6 "lot" := nm.store rfl (.inl rfl)
  have n_count : NameAt X 7 "count" := nm.name rfl (.inl rfl) (by decide) (by decide)
  have s_count : StoreAt X 7 "count" := nm.store rfl (.inl rfl)
  have n_left : NameAt X 8 "left" := nm.name rfl (.inl rfl) (by decide) (by decide)
  have s_left : StoreAt X 8 "left" := nm.store rfl (.inl rfl)
  have b_all : BltAt X "all" (.builtin "all") := nm.blt hX rfl T.z_all bo_all (by decide) (by decide)
  have b_tuple : BltAt X "tuple" (.type "tuple") := nm.blt hX rfl T.z_tuple bo_tuple (by decide) (by decide)
  have b_len : BltAt X "len" (.builtin "len") := nm.blt hX rfl T.z_len bo_len (by decide) (by decide)
  have b_sorted : BltAt X "sorted" (.builtin "sorted") := nm.blt hX rfl T.z_sorted bo_sorted (by decide) (by decide)
  obtain ⟨dl, dc, dg, dk, L, C, G, K', rfl, rfl, sl1, sc, sg, sk, hL, hq⟩ := hS
  haveI : SeeL [] R dl (L.map encRow) := ⟨sl1⟩
  haveI : SeeQ [] R dc (C.map D.str) := ⟨sc⟩
  haveI : SeeQ [] R dg (G.map D.str) := ⟨sg⟩
  haveI : SeeQ [] R dk (K'.map D.str) := ⟨sk⟩
  row_cond dstart
  refine wss_cons ?_
  row_cond gon
  refine we_newT fun q => ?_
  row_cond gon
  refine ws_mid (fun Γ => ∃ a b c, Γ = ⟨[some dl, some dc, some dg, some dk, some (.int (redSure L C G K')), some (.ref q), a, b, c, none], [(q, .dT (asK gLot D.int (tab (redRows L C G K'))))], R⟩) ?_ ?_
  · refine ws_forW hst (fun _ => rfl) ?_
    row_cond go
    refine ⟨fun i Γ => ∃ a b c, Γ = ⟨[some dl, some dc, some dg, some dk, some (.int (redSure (L.take i) C G K')), some (.ref q), a, b, c, none], [(q, .dT (asK gLot D.int (tab (redRows (L.take i) C G K'))))], R⟩, ⟨_, _, _, rfl⟩, ?_, fun i x Γ hx hW => ?_, fun Γ hW => ?_⟩
    · rintro i Γ ⟨a, b, c, rfl⟩
      exact (inferInstance : SeeL _ _ _ _).see
    · obtain ⟨a, b, c, rfl⟩ := hW
      rw [List.getElem?_map] at hx
      obtain ⟨r, hr, rfl⟩ := Option.map_eq_some_iff.mp hx
      obtain ⟨h1, h2, h3⟩ := hL.2 r (List.mem_of_getElem? hr)
      have hs := sumIf_at (fun l => redOk C K' l && decide ((redCut G l).length = 0)) hr
      have hm := redRows_at (C := C) (G := G) (K := K') hr
      row_cond go
      refine we_lc' hst (own := [("name", 9)]) (nm.blk (by decide +kernel)) (fun _ => rfl) rfl ?_
      row_cond go
      refine lc_mapG D.bl (fun n : Str => decide (n ∈ C) && !decide (n ∈ K')) hX (by rw [nm.N]; rfl) (.inl rfl) (fun _ _ => .self _) (by omega) (fun a j y acc hy => put_go fun X' hb => ?_) (fun a => ?_)
      ·
        have hX_X' := hb.inn hX
        have hst_X' := hX_X'.std
        have n_name_X' : NameAt X' 9 "name" := hb.name (by rw [nm.N]; rfl) (by first | exact .inl rfl | exact .inr (.inl rfl) | exact .inr (.inr rfl)) (by decide) (by decide)
        have s_name_X' : StoreAt X' 9 "name" := hb.store (by rw [nm.N]; rfl) (by first | exact .inl rfl | exact .inr rfl)
        have n_candidates_X' : NameAt X' 1 "candidates" := hb.name (by rw [nm.N]; rfl) (by first | exact .inl rfl | exact .inr (.inl rfl) | exact .inr (.inr rfl)) (by decide) (by decide)
        have n_kept_X' : NameAt X' 3 "kept" := hb.name (by rw [nm.N]; rfl) (by first | exact .inl rfl | exact .inr (.inl rfl) | exact .inr (.inr rfl)) (by decide) (by decide)
        row_cond go
        · rename_i h; exact ⟨by simp [h], _, rfl⟩
        · rename_i h; exact ⟨by simp [h], _, rfl⟩
      row_cond go
      rw [all_map_id]
      refine ⟨fun hc => ?_, fun hc => ?_⟩
      · row_cond go
        refine we_lc' hst (own := [("name", 9)]) (nm.blk (by decide +kernel)) (fun _ => rfl) rfl ?_
        row_cond go
        refine lc_filter hX (by rw [nm.N]; rfl) (.inl rfl) (fun n : Str => !decide (n ∈ G)) D.str (fun _ _ => .self _) (by omega) (fun a j y acc hy => put_go fun X' hb => ?_) (fun a => ?_)
        ·
          have hX_X' := hb.inn hX
          have hst_X' := hX_X'.std
          have n_name_X' : NameAt X' 9 "name" := hb.name (by rw [nm.N]; rfl) (by first | exact .inl rfl | exact .inr (.inl rfl) | exact .inr (.inr rfl)) (by decide) (by decide)
          have s_name_X' : StoreAt X' 9 "name" := hb.store (by rw [nm.N]; rfl) (by first | exact .inl rfl | exact .inr rfl)
          have n_gone_X' : NameAt X' 2 "gone" := hb.name (by rw [nm.N]; rfl) (by first | exact .inl rfl | exact .inr (.inl rfl) | exact .inr (.inr rfl)) (by decide) (by decide)
          row_cond go
          refine ⟨rfl, _, rfl, fun _ X2 hb2 => ?_⟩
          have hX_X2 := hb2.inn hX
          have hst_X2 := hX_X2.std
          have n_name_X2 : NameAt X2 9 "name" := hb2.name (by rw [nm.N]; rfl) (by first | exact .inl rfl | exact .inr (.inl rfl) | exact .inr (.inr rfl)) (by decide) (by decide)
          have s_name_X2 : StoreAt X2 9 "name" := hb2.store (by rw [nm.N]; rfl) (by first | exact .inl rfl | exact .inr rfl)
          have n_gone_X2 : NameAt X2 2 "gone" := hb2.name (by rw [nm.N]; rfl) (by first | exact .inl rfl | exact .inr (.inl rfl) | exact .inr (.inr rfl)) (by decide) (by decide)
          row_cond go
          exact ⟨rfl, _, rfl⟩
        have hcut : redOk C K' r.1 = true := hc
        have htl : (tab (redRows (L.take i) C G K')).length ≤ 1000 := by
          refine Nat.le_trans (tab_len _) ?_
          unfold redRows
          rw [List.length_map]
          refine Nat.le_trans (List.length_filter_le _ _) ?_
          rw [List.length_take]; have := hL.1; omega
        haveI : KeyTIs gLot (.tup ((r.1.filter fun n => !decide (n ∈ G)).map D.str)) (redCut G r.1) := ⟨lot_kD _⟩
        row_cond go
        · rename_i hz
          have hz2 : (redCut G r.1).length = 0 := by show (List.filter _ _).length = 0; omega
          exact ⟨_, wk_sub (.cons _ (.cons _ (.refl _))), _, _, _, by unfold redSure; rw [hs, if_pos (by rw [hcut]; simp [hz2]), hm, if_neg (by simp [hz2]), List.append_nil]⟩
        · rename_i hz
          have hz2 : ¬ (redCut G r.1).length = 0 := fun z => hz (by have : (List.filter (fun n => !decide (n ∈ G)) r.1).length = 0 := z; omega)
          rw [getD_int]
          row_cond go
          exact ⟨_, wk_sub (.cons _ (.cons _ (.refl _))), _, _, _, by unfold redSure; rw [hs, if_neg (by simp [hz2]), Int.add_zero, hm, if_pos (by rw [hcut]; simp [hz2]), tab_snoc]; rfl⟩
      · row_cond go
        have hcut : redOk C K' r.1 = false := hc
        exact ⟨_, wk_sub (.cons _ (.refl _)), _, _, _, by unfold redSure; rw [hs, if_neg (by rw [hcut]; simp), Int.add_zero, hm, if_neg (by rw [hcut]; simp), List.append_nil]⟩
    · obtain ⟨a, b, c, rfl⟩ := hW
      rw [List.length_map, List.take_length]
      exact ⟨_, _, _, rfl⟩
  rintro Γ ⟨a, b, c, rfl⟩
  obtain ⟨ok1, ok2⟩ := redRows_ok hL C G K'
  have hP := gLot_ne ok2 (fun l h => tab_keys.mp h)
  have htl : (tab (redRows L C G K')).length ≤ 1000 := Nat.le_trans (tab_len _) ok1.1
  have nd := tab_nodup (redRows L C G K')
  have hrows := srtL_rows nd
  generalize tab (redRows L C G K') = es at *
  row_cond go
  refine we_lc' hst (own := [("lot", 6)]) (nm.blk (by decide +kernel)) (fun _ => rfl) rfl ?_
  row_cond go
  refine lc_map hX (by rw [nm.N]; rfl) (.inl rfl) (fun l => encRow (l, (getE es l).getD 0)) (fun _ _ => (inferInstance : SeeL _ _ _ _).see) (by rw [srt_len, List.length_map]; omega) (fun a j l acc hl => put_go fun X' hb => ?_) (fun a => ?_)
  · obtain ⟨e, he, rfl⟩ := List.mem_map.mp (mem_srt.mp (List.mem_of_getElem? hl))
    have hg : getE es e.1 = some e.2 := getE_of nd he
    have hX_X' := hb.inn hX
    have hst_X' := hX_X'.std
    have n_lot_X' : NameAt X' 6 "lot" := hb.name (by rw [nm.N]; rfl) (by first | exact .inl rfl | exact .inr (.inl rfl) | exact .inr (.inr rfl)) (by decide) (by decide)
    have s_lot_X' : StoreAt X' 6 "lot" := hb.store (by rw [nm.N]; rfl) (by first | exact .inl rfl | exact .inr rfl)
    have n_table_X' : NameAt X' 5 "table" := hb.name (by rw [nm.N]; rfl) (by first | exact .inl rfl | exact .inr (.inl rfl) | exact .inr (.inr rfl)) (by decide) (by decide)
    row_cond go
    exact ⟨by rw [hg]; rfl, _, rfl⟩
  · row_cond go
    refine rt0 ?_
    rw [← hrows, List.map_map] at hq
    exact hq

end K50


namespace K50
open PySem PySem.Spec PyProof.Rows L2 DL
local macro_rules | `(tactic| row_cond dcall) => `(tactic| first
  | ((with_reducible refine' we_callS (x := "make_lot") ?c ?x ?j ?g ?d ?e ?_); (case c => assumption); (case x => assumption); (case j => first | decide | exact Nat.le_refl _ | omega); (case g => assumption); (case d => decide); (case e => rfl))
  | ((with_reducible refine' we_call (x := "make_ledger") ?c ?x ?j ?g ?d ?e ?p ?_); (case c => assumption); (case x => assumption); (case j => first | decide | exact Nat.le_refl _ | omega); (case g => assumption); (case d => decide); (case e => rfl); (case p => rfl))
  | ((with_reducible refine' we_call (x := "freed") ?c ?x ?j ?g ?d ?e ?p ?_); (case c => assumption); (case x => assumption); (case j => first | decide | exact Nat.le_refl _ | omega); (case g => assumption); (case d => decide); (case e => rfl); (case p => rfl))
  | ((with_reducible refine' we_call (x := "reduced") ?c ?x ?j ?g ?d ?e ?p ?_); (case c => assumption); (case x => assumption); (case j => first | decide | exact Nat.le_refl _ | omega); (case g => assumption); (case d => decide); (case e => rfl); (case p => rfl))
  | ((with_reducible refine' we_call (x := "_law_mix") ?c ?x ?j ?g ?d ?e ?p ?_); (case c => assumption); (case x => assumption); (case j => first | decide | exact Nat.le_refl _ | omega); (case g => assumption); (case d => decide); (case e => rfl); (case p => rfl))
  | ((with_reducible refine' we_call (x := "_law_start") ?c ?x ?j ?g ?d ?e ?p ?_); (case c => assumption); (case x => assumption); (case j => first | decide | exact Nat.le_refl _ | omega); (case g => assumption); (case d => decide); (case e => rfl); (case p => rfl))
  | ((with_reducible refine' we_call1 (x := "_law_next") ?c ?x ?j ?g ?d ?e ?p ?_); (case c => assumption); (case x => assumption); (case j => first | decide | exact Nat.le_refl _ | omega); (case g => assumption); (case d => decide); (case e => rfl); (case p => rfl))
  | ((with_reducible refine' we_call (x := "_law_is") ?c ?x ?j ?g ?d ?e ?p ?_); (case c => assumption); (case x => assumption); (case j => first | decide | exact Nat.le_refl _ | omega); (case g => assumption); (case d => decide); (case e => rfl); (case p => rfl))
  | ((with_reducible refine' we_call1 (x := "_law_names") ?c ?x ?j ?g ?d ?e ?p ?_); (case c => assumption); (case x => assumption); (case j => first | decide | exact Nat.le_refl _ | omega); (case g => assumption); (case d => decide); (case e => rfl); (case p => rfl))
  | ((with_reducible refine' we_call1 (x := "_law_lot") ?c ?x ?j ?g ?d ?e ?p ?_); (case c => assumption); (case x => assumption); (case j => first | decide | exact Nat.le_refl _ | omega); (case g => assumption); (case d => decide); (case e => rfl); (case p => rfl))
  | ((with_reducible refine' we_call1 (x := "_law_ledger") ?c ?x ?j ?g ?d ?e ?p ?_); (case c => assumption); (case x => assumption); (case j => first | decide | exact Nat.le_refl _ | omega); (case g => assumption); (case d => decide); (case e => rfl); (case p => rfl))
  | ((with_reducible refine' we_call1 (x := "_law_turned") ?c ?x ?j ?g ?d ?e ?p ?_); (case c => assumption); (case x => assumption); (case j => first | decide | exact Nat.le_refl _ | omega); (case g => assumption); (case d => decide); (case e => rfl); (case p => rfl))
  | ((with_reducible refine' we_call (x := "_law_reduced") ?c ?x ?j ?g ?d ?e ?p ?_); (case c => assumption); (case x => assumption); (case j => first | decide | exact Nat.le_refl _ | omega); (case g => assumption); (case d => decide); (case e => rfl); (case p => rfl))
  | ((with_reducible refine' we_call (x := "_law_freed") ?c ?x ?j ?g ?d ?e ?p ?_); (case c => assumption); (case x => assumption); (case j => first | decide | exact Nat.le_refl _ | omega); (case g => assumption); (case d => decide); (case e => rfl); (case p => rfl))
  | ((with_reducible refine' we_call1 (x := "_law_lots") ?c ?x ?j ?g ?d ?e ?p ?_); (case c => assumption); (case x => assumption); (case j => first | decide | exact Nat.le_refl _ | omega); (case g => assumption); (case d => decide); (case e => rfl); (case p => rfl))
  | ((with_reducible refine' we_call (x := "law") ?c ?x ?j ?g ?d ?e ?p ?_); (case c => assumption); (case x => assumption); (case j => first | decide | exact Nat.le_refl _ | omega); (case g => assumption); (case d => decide); (case e => rfl); (case p => rfl)))
/-! the steps: one line a construct -/
local macro_rules | `(tactic| row_cond dlen) => `(tactic| (intro ds M R Q h; first | (obtain ⟨h1, _⟩ := h; subst h1; rfl) | (obtain ⟨_, h1, _⟩ := h; subst h1; rfl) | (obtain ⟨_, _, h1, _⟩ := h; subst h1; rfl) | (obtain ⟨_, _, _, h1, _⟩ := h; subst h1; rfl) | (obtain ⟨_, _, _, _, h1, _⟩ := h; subst h1; rfl) | (obtain ⟨_, _, _, _, _, h1, _⟩ := h; subst h1; rfl) | (obtain ⟨_, _, _, _, _, _, h1, _⟩ := h; subst h1; rfl) | (obtain ⟨_, _, _, _, _, _, _, h1, _⟩ := h; subst h1; rfl) | (obtain ⟨_, _, _, _, _, _, _, _, h1, _⟩ := h; subst h1; rfl) | (obtain ⟨_, _, _, _, _, _, _, _, _, h1, _⟩ := h; subst h1; rfl) | (obtain ⟨_, _, _, _, _, _, _, _, _, _, h1, _⟩ := h; subst h1; rfl) | (obtain ⟨_, _, _, _, _, _, _, _, _, _, _, h1, _⟩ := h; subst h1; rfl) | (obtain ⟨_, _, _, _, _, _, _, _, _, _, _, _, h1, _⟩ := h; subst h1; rfl)))
local macro_rules | `(tactic| row_cond dsz) => `(tactic| first | exact Nat.le_of_ble_eq_true rfl | assumption | (simp only [List.length_map, List.length_cons, List.length_append, List.length_nil, List.length_reverse, List.length_take, List.length_drop, PySem.sizeLine]; omega))
/- expressions -/
local macro_rules | `(tactic| row_cond dE) => `(tactic| first
  | ((with_reducible refine' we_name ?n ?e ?_); (case n => assumption); (case e => rfl))
  | (with_reducible refine we_int ?_)
  | (with_reducible refine we_bl ?_)
  | (with_reducible refine we_str ?_)
  | (with_reducible refine we_non ?_)
  | (with_reducible refine we_bin ?_)
  | ((with_reducible refine' we_cmp ?n ?_); (case n => rfl))
  | (with_reducible refine we_slice ?_)
  | (with_reducible refine we_rev ?_)
  | ((with_reducible refine' we_ix ?n ?_); (case n => exact fun _ _ => rfl))
  | (with_reducible refine we_tupV ?_)
  | (with_reducible refine we_lstV ?_)
  | ((with_reducible refine' we_blt ?b ?n ?m ?_); (case b => assumption); (case n => rfl); (case m => rfl))
  | ((with_reducible refine' we_typ ?b ?n ?m ?_); (case b => assumption); (case n => rfl); (case m => rfl))
  | ((with_reducible refine' we_tyName ?b ?_); (case b => assumption))
  | (with_reducible refine we_one ?_)
  | (with_reducible refine we_and ?_)
  | (with_reducible refine we_or ?_)
  | (with_reducible refine we_not ?_)
  | (with_reducible refine we_ifexp ?_)
  | ((with_reducible refine' we_un ?n ?_); (case n => exact fun z => nomatch z))
  | row_cond dcall
  | ((with_reducible refine we_bm (T := "list") PySem.F.plainAttrs_list PySem.F.slot_list_append PySem.F.type_list_append ?a ?b ?c ?d ?e ?_); (case a => rfl); (case b => rfl); (case c => rfl); (case d => rfl); (case e => rfl))
  | ((with_reducible refine we_bm0 (T := "list") PySem.F.plainAttrs_list PySem.F.slot_list_pop PySem.F.type_list_pop ?a ?b ?_); (case a => rfl); (case b => rfl))
  | ((with_reducible refine we_bm (T := "list") PySem.F.plainAttrs_list PySem.F.slot_list_extend PySem.F.type_list_extend ?a ?b ?c ?d ?e ?_); (case a => rfl); (case b => rfl); (case c => rfl); (case d => rfl); (case e => rfl)))
/- tests -/
local macro_rules | `(tactic| row_cond dT) => `(tactic| first
  | ((with_reducible refine' wt_cmp ?n ?_); (case n => rfl))
  | (with_reducible refine wt_not ?_)
  | (with_reducible refine wt_bool ?_)
  | (with_reducible refine ww_and1 ?_)
  | (with_reducible refine ww_or1 ?_)
  | (with_reducible refine ww_and ?_)
  | (with_reducible refine ww_or ?_)
  | ((with_reducible refine' wt_val ?n ?_); (case n => exact fun _ => rfl)))
/- statements -/
local macro_rules | `(tactic| row_cond dS) => `(tactic| first
  | (with_reducible refine wss_cons ?_)
  | (with_reducible refine wss_nil ?_)
  | ((with_reducible refine' ws_set ?a ?n ?h ?_); (case a => assumption); (case n => assumption); (case h => rfl))
  | ((with_reducible refine' ws_sub ?h ?_); (case h => rfl))
  | ((with_reducible refine' ws_asg ?a ?n ?h ?_); (case a => rfl); (case n => rfl); (case h => rfl))
  | (with_reducible refine ws_if ?_)
  | row_cond dret
  | ((with_reducible refine' ws_expr ?h ?_); (case h => rfl))
  | (with_reducible refine ws_pass ?_)
  | (with_reducible refine ws_break ?_)
  | (with_reducible refine ws_continue ?_)
  | (with_reducible refine ws_retN ?_))
local macro_rules | `(tactic| row_cond dSn) => `(tactic| first
  | (with_reducible refine wss_cons ?_)
  | (with_reducible refine wss_nil ?_)
  | ((with_reducible refine' ws_set ?a ?n ?h ?_); (case a => assumption); (case n => assumption); (case h => rfl))
  | ((with_reducible refine' ws_sub ?h ?_); (case h => rfl))
  | ((with_reducible refine' ws_asg ?a ?n ?h ?_); (case a => rfl); (case n => rfl); (case h => rfl))
  | row_cond dret
  | ((with_reducible refine' ws_expr ?h ?_); (case h => rfl))
  | (with_reducible refine ws_pass ?_)
  | (with_reducible refine ws_break ?_)
  | (with_reducible refine ws_continue ?_)
  | (with_reducible refine ws_retN ?_))
/- arguments, targets, values -/
local macro_rules | `(tactic| row_cond dV) => `(tactic| first
  | (with_reducible refine wa_nil ?_)
  | ((with_reducible refine' wa_cons ?n ?_); (case n => rfl))
  | (with_reducible refine wav_nil ?_)
  | ((with_reducible refine' wav_cons ?n ?_); (case n => rfl))
  | (with_reducible refine put_go ?_)
  | (with_reducible refine fz_lst ?_)
  | (with_reducible refine fz_tup ?_)
  | (with_reducible refine fz_id ?_)
  | (with_reducible refine own0_go ?_)
  | (with_reducible refine own1_go ?_)
  | (with_reducible refine app_go ?_)
  | (with_reducible refine mset_go ?_)
  | ((with_reducible refine' wg_name ?a ?n ?_); (case a => assumption); (case n => assumption))
  | ((with_reducible refine' wg_tup ?a ?n ?h ?_); (case a => assumption); (case n => rfl); (case h => rfl))
  | (with_reducible refine wgs_nil ?_)
  | ((with_reducible refine' wgs_cons ?n ?_); (case n => rfl))
  | (with_reducible refine wpt_none ?_)
  | (with_reducible refine wpt_some ?_)
  | ((with_reducible refine' wset_list ?n ?_); (case n => first | rfl | row_cond dix)))
/- what is walked -/
local macro_rules | `(tactic| row_cond dI) => `(tactic| first
  | ((with_reducible refine' wi_range1 ?a ?b ?c ?_); (case a => exact BltAt.gl (by assumption)); (case b => exact BltAt.mg (by assumption)); (case c => rfl))
  | ((with_reducible refine' wi_range2 ?a ?b ?c ?d ?_); (case a => exact BltAt.gl (by assumption)); (case b => exact BltAt.mg (by assumption)); (case c => rfl); (case d => rfl))
  | (with_reducible refine wi_val ?_)
  | (with_reducible refine wiv_list ?_)
  | (with_reducible refine wiv_tup ?_)
  | (with_reducible refine wiv_seq ?_)
  | ((with_reducible refine' wgc_name ?a ?n ?h ?_); (case a => assumption); (case n => assumption); (case h => decide))
  | ((with_reducible refine' wgc_tup ?a ?n ?h ?_); (case a => assumption); (case n => rfl); (case h => rfl))
  | (with_reducible refine wgcs_nil ?_)
  | ((with_reducible refine' wgcs_cons ?n ?_); (case n => rfl))
  | (with_reducible refine wts_nil ?_)
  | (with_reducible refine wts_one ?_))
/- operations by values -/
local macro_rules | `(tactic| row_cond dO) => `(tactic| first
  | (with_reducible refine wo_add ?_)
  | (with_reducible refine wo_sub ?_)
  | ((with_reducible refine' wo_mulS ?n ?_); (case n => first | exact .inr ⟨by decide, by decide⟩ | exact .inl ⟨by decide, by decide⟩ | exact .inr ⟨by omega, by omega⟩ | exact .inl ⟨by omega, by omega⟩))
  | ((with_reducible refine' wo_fdiv ?n ?m ?_); (case n => first | decide | omega); (case m => first | decide | row_cond dlog))
  | ((with_reducible refine' wo_mod ?n ?_); (case n => first | decide | omega))
  | (with_reducible refine wo_powL ?_)
  | ((with_reducible refine' wo_pow ?n ?_); (case n => exact ⟨by decide, by decide, by decide⟩))
  | (with_reducible refine wo_xor ?_)
  | (with_reducible refine wo_lt ?_)
  | (with_reducible refine wo_le ?_)
  | (with_reducible refine wo_gt ?_)
  | (with_reducible refine wo_ge ?_)
  | (with_reducible refine wo_eqI ?_)
  | (with_reducible refine wo_neI ?_)
  | (with_reducible refine wo_eqS ?_)
  | (with_reducible refine wo_neS ?_)
  | (with_reducible refine wo_isN ?_)
  | (with_reducible refine wo_isnotN ?_)
  | (with_reducible refine wu_neg ?_)
  | (with_reducible refine wc_int ?_)
  | (with_reducible refine wc_intB ?_)
  | (with_reducible refine wc_abs ?_)
  | ((with_reducible refine' wc_max2 ?a ?_); (case a => assumption))
  | ((with_reducible refine' wc_min2 ?a ?_); (case a => assumption))
  | (with_reducible refine wc_list ?_)
  | (with_reducible refine wc_tuple ?_)
  | ((with_reducible refine' wc_lenS ?a ?_); (case a => row_cond dsz))
  | (with_reducible refine wc_lenM ?_)
  | (with_reducible refine wc_len ?_)
  | (with_reducible refine wc_isK ?_)
  | ((with_reducible refine' wc_allM ?a ?_); (case a => assumption))
  | ((with_reducible refine' wc_anyM ?a ?_); (case a => assumption))
  | ((with_reducible refine' wc_sum ?a ?_); (case a => assumption))
  | ((with_reducible refine' wx_list ?n ?_); (case n => row_cond dat))
  | ((with_reducible refine' wx_map ?a ?b ?_); (case a => omega); (case b => omega))
  | ((with_reducible refine' wx_seq ?a ?b ?_); (case a => omega); (case b => omega))
  | ((with_reducible refine' wx_tup ?n ?_); (case n => row_cond dat))
  | (with_reducible refine wsl_listM ?_)
  | (with_reducible refine wsl_list ?_)
  | (with_reducible refine wrev_goM ?_)
  | (with_reducible refine wrev_go ?_)
  | ((with_reducible refine' wo_catM ?n ?_); (case n => row_cond dsz))
  | ((with_reducible refine' wo_cat ?n ?_); (case n => row_cond dsz))
  | ((with_reducible refine' wm_append ?n ?_); (case n => row_cond dsz)))
local macro_rules | `(tactic| row_cond dat) => `(tactic| rfl)
local macro_rules | `(tactic| row_cond dix) => `(tactic| rfl)
local macro_rules | `(tactic| row_cond dlog) => `(tactic| first | decide | exact log_small (by omega) (by omega))
/- what stands between -/
local macro_rules | `(tactic| row_cond dQ) => `(tactic| first
  | (with_reducible refine ⟨_, rfl, ?_⟩)
  | (with_reducible refine br_true ?_)
  | (with_reducible refine br_false ?_)
  | (with_reducible refine rb_true ?_)
  | (with_reducible refine rb_false ?_)
  | ((with_reducible refine' br_dec ?_ ?_) <;> intro _)
  | ((with_reducible refine' br_ndec ?_ ?_) <;> intro _)
  | ((with_reducible refine' rb_dec ?_ ?_) <;> intro _)
  | ((with_reducible refine' rb_ndec ?_ ?_) <;> intro _)
  | (refine br_is rfl ?_)
  | (refine br_isnot rfl ?_)
  | (refine rb_is rfl ?_)
  | (refine rb_isnot rfl ?_)
  | ((with_reducible refine' ⟨⟨?a, ?b⟩, ?_⟩); (case a => omega); (case b => omega))
  | ((with_reducible refine' ⟨⟨?a, ?b, ?c, ?d⟩, ?_⟩); (case a => omega); (case b => omega); (case c => omega); (case d => omega))
  | (with_reducible refine app_go ?_)
  | (with_reducible refine ⟨tym_list, ?_⟩)
  | (with_reducible refine ⟨tym_str, ?_⟩)
  | ((with_reducible refine ⟨?n, ?_⟩); (case n => (show _ ≤ PySem.sizeLine); row_cond dsz))
  | (with_reducible intro _))
local macro_rules | `(tactic| row_cond dstart) => `(tactic| simp only [startD, List.map_cons, List.map_nil, List.length_cons, List.length_nil, List.cons_append, List.nil_append, Nat.zero_add, Nat.reduceAdd, Nat.reduceSub, List.replicate_succ, List.replicate_zero])
local macro_rules | `(tactic| row_cond d) => `(tactic| first | row_cond dE | row_cond dV | row_cond dO | row_cond dT | row_cond dS | row_cond dI | row_cond dmore | row_cond dspec | row_cond dQ)
local macro_rules | `(tactic| row_cond dn) => `(tactic| first | row_cond dE | row_cond dV | row_cond dO | row_cond dT | row_cond dSn | row_cond dI | row_cond dmore | row_cond dspec | row_cond dQ)
local macro_rules | `(tactic| row_cond gon) => `(tactic| repeat' (row_cond dn))
local macro_rules | `(tactic| row_cond go) => `(tactic| repeat' (row_cond d))
/- the later parts of the layer -/
local macro_rules | `(tactic| row_cond dE) => `(tactic| first
  | ((with_reducible refine' we_sortedSet ?a ?b ?c ?d ?e ?_); (case a => assumption); (case b => assumption); (case c => assumption); (case d => rfl); (case e => rfl))
  | ((with_reducible refine' we_get2 ?a ?b ?_); (case a => assumption); (case b => exact ⟨rfl, rfl, rfl, rfl⟩))
  | ((with_reducible refine' we_get1 ?a ?b ?_); (case a => assumption); (case b => exact ⟨rfl, rfl, rfl, rfl⟩))
  | ((with_reducible refine' we_pop1 ?b ?_); (case b => exact ⟨rfl, rfl, rfl, rfl⟩)))
local macro_rules | `(tactic| row_cond dO) => `(tactic| first
  | ((with_reducible refine' wc_sorted ?a ?b ?c ?_); (case a => assumption); (case b => decide); (case c => first | exact fun _ _ => trivial | assumption))
  | ((with_reducible refine' wsorted_go ?a ?_); (case a => first | assumption | omega))
  | ((with_reducible refine' wo_inD ?a ?b ?_); (case a => assumption); (case b => decide))
  | ((with_reducible refine' wo_ninD ?a ?b ?_); (case a => assumption); (case b => decide))
  | (with_reducible refine getD_K ?_)
  | (with_reducible refine getD_T ?_)
  | ((with_reducible refine' wsl_txt ?a ?_); (case a => row_cond dsz))
  | ((with_reducible refine' wx_strN ?a ?b ?c ?_); (case a => row_cond dsz); (case b => omega); (case c => first | omega | (simp only [PySem.Str.length]; omega)))
  | (with_reducible refine ⟨isDD_K, ?_⟩)
  | (with_reducible refine ⟨isDD_T, ?_⟩))
local macro_rules | `(tactic| row_cond dO) => `(tactic| first
  | ((with_reducible refine' wm_appendM ?n ?_); (case n => row_cond dsz)))
local macro_rules | `(tactic| row_cond dE) => `(tactic| ((with_reducible refine' we_con ?c ?_); (case c => assumption)))
local macro_rules | `(tactic| row_cond dV) => `(tactic| first
  | (with_reducible refine wk_nil ?_)
  | (with_reducible refine wk_cons ?_)
  | (with_reducible refine ⟨rfl, rfl, ?_⟩))
local macro_rules | `(tactic| row_cond dI) => `(tactic| ((with_reducible refine' wi_range3 ?a ?b ?c ?d ?_); (case a => exact BltAt.gl (by assumption)); (case b => exact BltAt.mg (by assumption)); (case c => rfl); (case d => rfl)))
local macro_rules | `(tactic| row_cond dO) => `(tactic| first
  | ((with_reducible refine' wc_lenS ?a ?_); (case a => row_cond dsz)))
local macro_rules | `(tactic| row_cond dO) => `(tactic| first
  | ((with_reducible refine' wo_addS ?a ?_); (case a => row_cond dsz)))
local macro_rules | `(tactic| row_cond dO) => `(tactic| first
  | ((with_reducible refine' wo_addS2 ?a ?_); (case a => first | decide | omega))
  | ((with_reducible refine' wsl_txt2 ?a ?_); (case a => first | decide | omega))
  | ((with_reducible refine' wc_lenS2 ?a ?_); (case a => first | decide | omega)))
local macro_rules | `(tactic| row_cond dE) => `(tactic| first
  | ((with_reducible refine we_bm (T := "str") PySem.F.plainAttrs_str PySem.F.slot_str_index PySem.F.type_str_index ?a ?b ?c ?d ?e ?_); (case a => rfl); (case b => rfl); (case c => rfl); (case d => rfl); (case e => rfl))
  | ((with_reducible refine we_bm (T := "str") PySem.F.plainAttrs_str PySem.F.slot_str_join PySem.F.type_str_join ?a ?b ?c ?d ?e ?_); (case a => rfl); (case b => rfl); (case c => rfl); (case d => rfl); (case e => rfl))
  | ((with_reducible refine we_bm (T := "str") PySem.F.plainAttrs_str PySem.F.slot_str_startswith PySem.F.type_str_startswith ?a ?b ?c ?d ?e ?_); (case a => rfl); (case b => rfl); (case c => rfl); (case d => rfl); (case e => rfl)))
local macro_rules | `(tactic| row_cond dO) => `(tactic| first
  | (with_reducible refine wm_starts ?_))
local macro_rules | `(tactic| row_cond dret) => `(tactic| (with_reducible refine ws_ret ?_))
local macro_rules | `(tactic| row_cond dO) => `(tactic| first
  | ((with_reducible refine' wx_asK ?a ?b ?_); (case a => assumption); (case b => assumption))
  | ((with_reducible refine' wo_inAsK ?a ?_); (case a => assumption))
  | ((with_reducible refine' wo_ninAsK ?a ?_); (case a => assumption))
  | ((with_reducible refine' wset_asK ?a ?b ?_); (case a => assumption); (case b => row_cond dsz))
  | (with_reducible refine getD_asK ?_)
  | ((with_reducible refine' popD_asK ?b ?_); (case b => assumption))
  | ((with_reducible refine' wx_asT ?a ?b ?_); (case a => assumption); (case b => assumption))
  | ((with_reducible refine' wo_inAsT ?a ?_); (case a => assumption))
  | ((with_reducible refine' wo_ninAsT ?a ?_); (case a => assumption))
  | ((with_reducible refine' wset_asT ?a ?b ?_); (case a => assumption); (case b => row_cond dsz))
  | (with_reducible refine getD_asT ?_)
  | ((with_reducible refine' wc_sortedAs ?a ?_); (case a => assumption)))
local macro_rules | `(tactic| row_cond dO) => `(tactic| first
  | (with_reducible refine wc_lenAsK ?_)
  | (with_reducible refine wc_lenAsT ?_))
local macro_rules | `(tactic| row_cond dI) => `(tactic| first
  | (with_reducible refine wiv_asK ?_))
local macro_rules | `(tactic| row_cond dV) => `(tactic| (with_reducible refine star_go ?_))
local macro_rules | `(tactic| row_cond dO) => `(tactic| first
  | ((with_reducible refine' wc_sortedAsT ?a ?b ?_); (case a => assumption); (case b => assumption))
  | ((with_reducible refine' wm_insert ?a ?b ?c ?_); (case a => row_cond dsz); (case b => omega); (case c => omega)))
local macro_rules | `(tactic| row_cond dE) => `(tactic| first
  | ((with_reducible refine we_bm (T := "list") PySem.F.plainAttrs_list PySem.F.slot_list_insert PySem.F.type_list_insert ?a ?b ?c ?d ?e ?_); (case a => rfl); (case b => rfl); (case c => rfl); (case d => rfl); (case e => rfl)))

local macro_rules | `(tactic| row_cond dspec) => `(tactic| first
  | ((with_reducible refine' sp_law_next_go ?a ?b ?c ?_); (case a => assumption); (case b => first | decide | omega | (split <;> omega)); (case c => first | decide | omega | (split <;> omega)))
  | (with_reducible refine sp_law_mix_go ?_))
local macro_rules | `(tactic| row_cond dmore) => `(tactic| first
  | (with_reducible refine ⟨_, [], rfl, ?_⟩))

/-! ### what is drawn -/
def sp_law_turned : SpD := fun ds M R Q => ∃ (p : Addr) (st dn : D) (xs : List Str), ds = [.ref p, dn] ∧ M = [(p, st)] ∧ DrawSt st ∧ See [] R dn (.lst (xs.map D.str)) ∧ xs.length ≤ 4000 ∧ ∀ (ys : List Str) (st' : D), ys.Perm xs → DrawSt st' → Q (.lst (ys.map D.str)) [(p, st')]
theorem take_drop_perm {α : Type} (xs : List α) (i : Nat) (y : α) : (xs.take i ++ [y] ++ xs.drop i).Perm (xs ++ [y]) := by
  have h1 : (xs.take i ++ [y] ++ xs.drop i).Perm (xs.take i ++ xs.drop i ++ [y]) := by
    rw [List.append_assoc, List.append_assoc]
    exact List.Perm.append_left _ List.perm_append_comm
  rwa [List.take_append_drop] at h1
local macro_rules | `(tactic| row_cond dret) => `(tactic| (with_reducible refine ws_retV ?_))
theorem cal_law_turned {P : Program} {w : World} {K : PySem.W.Frag} {mg : Str → Option Value} {base : Heap} (T : Tx mg) (Da : DefAt K mg "_law_turned" s_law_turned) (c_law_next : Cal P w K mg base 2 "_law_next" sp_law_next) : Cal P w K mg base (3) "_law_turned" sp_law_turned := by
  refine calD (k := 2) Da sc_law_turned (fun f fd Fu => Fu.binds fun _ _ _ _ _ _ us hl => match us, hl with | [_, _], _ => rfl) (by row_cond dlen) (fun X F hX nm ds M R Q hS => ?_)
  have hst := hX.std
  have n_state : NameAt X 0 "state" := nm.name rfl (.inl rfl) (by decide) (by decide)
  have s_state : StoreAt X 0 "state" := nm.store rfl (.inl rfl)
  have n_names : NameAt X 1 "names" := nm.name rfl (.inl rfl) (by decide) (by decide)
  have s_names : StoreAt X 1 "names" := nm.store rfl (.inl rfl)
  have n_turned : NameAt X 2 "turned" := nm.name rfl (.inl rfl) (by decide) (by decide)
  have s_turned : StoreAt X 2 "turned" := nm.store rfl (.inl rfl)
  have n_name : NameAt X 3 "name" := nm.name rfl (.inl rfl) (by decide) (by decide)
  have s_name : StoreAt X 3 "name" := nm.store rfl (.inl rfl)
  have g_law_next : Gl X "_law_next" := nm.gl rfl
  have b_len : BltAt X "len" (.builtin "len") := nm.blt hX rfl T.z_len bo_len (by decide) (by decide)
  obtain ⟨p, st, dn, xs, rfl, rfl, hs, sn, hz, hq⟩ := hS
  haveI : SeeL [] R dn (xs.map D.str) := ⟨sn⟩
  row_cond dstart
  refine wss_cons ?_
  row_cond gon
  rename_i q
  refine ws_forW hst (fun _ => rfl) ?_
  row_cond go
  refine ⟨fun i Γ => ∃ (ys : List Str) (st : D) (a : Option D), Γ = ⟨[some (.ref p), some dn, some (.ref q), a], [(q, .lst (ys.map D.str)), (p, st)], R⟩ ∧ ys.Perm (xs.take i) ∧ DrawSt st, ⟨[], _, _, rfl, List.Perm.refl _, hs⟩, ?_, fun i x Γ hx hW => ?_, fun Γ hW => ?_⟩
  · rintro i Γ ⟨ys, st, a, rfl, _, _⟩
    exact (inferInstance : SeeL _ _ _ _).see
  · obtain ⟨ys, st, a, rfl, hp, hs⟩ := hW
    rw [List.getElem?_map] at hx
    obtain ⟨y, hy, rfl⟩ := Option.map_eq_some_iff.mp hx
    have hyl : ys.length ≤ 4000 := by rw [hp.length_eq, List.length_take]; omega
    row_cond go
    rename_i r s1 hr hr' hs1
    refine ⟨_, .refl _, _, _, _, rfl, ?_, hs1⟩
    rw [List.take_add_one, hy]
    exact (take_drop_perm _ _ _).trans (hp.append_right _)
  · obtain ⟨ys, st, a, rfl, hp, hs⟩ := hW
    rw [List.length_map, List.take_length] at hp
    row_cond go
    exact rt1 (hq _ _ hp hs)
/-- a lot drawn of names -/
def sp_law_lot : SpD := fun ds M R Q => ∃ (p : Addr) (st dn : D) (xs : List Str), ds = [.ref p, dn] ∧ M = [(p, st)] ∧ DrawSt st ∧ See [] R dn (.lst (xs.map D.str)) ∧ xs.length ≤ 4000 ∧ 0 < xs.length ∧ xs.Nodup ∧ ∀ (l : Lot) (st' : D), LotOk l → 0 < l.length → l.length ≤ 4000 → (∀ n ∈ l, n ∈ xs) → DrawSt st' → Q (encLot l) [(p, st')]
theorem cal_law_lot {P : Program} {w : World} {K : PySem.W.Frag} {mg : Str → Option Value} {base : Heap} (T : Tx mg) (Da : DefAt K mg "_law_lot" s_law_lot) (c_law_next : Cal P w K mg base 2 "_law_next" sp_law_next) : Cal P w K mg base (3) "_law_lot" sp_law_lot := by
  refine calD (k := 2) Da sc_law_lot (fun f fd Fu => Fu.binds fun _ _ _ _ _ _ us hl => match us, hl with | [_, _], _ => rfl) (by row_cond dlen) (fun X F hX nm ds M R Q hS => ?_)
  have hst := hX.std
  have n_state : NameAt X 0 "state" := nm.name rfl (.inr rfl) (by decide) (by decide)
  have s_state : StoreAt X 0 "state" := nm.store rfl (.inr rfl)
  have n_names : NameAt X 1 "names" := nm.name rfl (.inl rfl) (by decide) (by decide)
  have s_names : StoreAt X 1 "names" := nm.store rfl (.inl rfl)
  have n_some : NameAt X 2 "some" := nm.name rfl (.inr rfl) (by decide) (by decide)
  have s_some : StoreAt X 2 "some" := nm.store rfl (.inr rfl)
  have n_lot : NameAt X 3 "lot" := nm.name rfl (.inl rfl) (by decide) (by decide)
  have s_lot : StoreAt X 3 "lot" := nm.store rfl (.inl rfl)
  have g_law_next : Gl X "_law_next" := nm.gl rfl
  have b_len : BltAt X "len" (.builtin "len") := nm.blt hX rfl T.z_len bo_len (by decide) (by decide)
  have b_tuple : BltAt X "tuple" (.type "tuple") := nm.blt hX rfl T.z_tuple bo_tuple (by decide) (by decide)
  have b_sorted : BltAt X "sorted" (.builtin "sorted") := nm.blt hX rfl T.z_sorted bo_sorted (by decide) (by decide)
  obtain ⟨p, st, dn, xs, rfl, rfl, hs, sn, hz, hx0, nd, hq⟩ := hS
  haveI : SeeL [] R dn (xs.map D.str) := ⟨sn⟩
  row_cond dstart
  refine wss_cons ?_
  row_cond gon
  rename_i r1 s1 hr1 hr1' hs1
  refine ws_mid (fun Γ => ∃ (ys : List Str) (st : D) (q : Addr), Γ = ⟨[some (.ref p), some dn, some (.int (2 + r1)), some (.ref q), none], [(q, .lst (ys.map D.str)), (p, st)], R⟩ ∧ ys.Sublist xs ∧ DrawSt st) ?_ ?_
  · refine ws_setLc' (i := 3) hst (own := [("name", 4)]) (by rw [nm.N]; rfl) (by rw [nm.sc]; rfl) (nm.swaps (by decide +kernel)) (nm.blk (by decide +kernel)) (fun _ => rfl) rfl ?_
    row_cond go
    refine lc_name1 hX (by rw [nm.N]; rfl) (by first | exact .inl rfl | exact .inr rfl) (fun i acc M' => ∃ (ys : List Str) (st : D), acc = ys.map D.str ∧ M' = [(p, st)] ∧ ys.Sublist (xs.take i) ∧ DrawSt st) ⟨[], _, rfl, rfl, .slnil, hs1⟩ (fun a j acc M' h => ?_) (fun a i x acc M' hx hW => ?_) (fun a acc M' hW => ?_)
    · obtain ⟨ys, st, rfl, rfl, _, _⟩ := h
      exact (inferInstance : SeeL _ _ _ _).see
    · obtain ⟨ys, st, rfl, rfl, hsub, hs⟩ := hW
      rw [List.getElem?_map] at hx
      obtain ⟨y, hy, rfl⟩ := Option.map_eq_some_iff.mp hx
      have hyl := hsub.length_le
      rw [List.length_take] at hyl
      have e : xs.take (i + 1) = xs.take i ++ [y] := by rw [List.take_add_one, hy]; rfl
      refine put_go (fun X' hb => ?_)
      have hX_X' := hb.inn hX
      have hst_X' := hX_X'.std
      have n_name_X' : NameAt X' 4 "name" := hb.name (by rw [nm.N]; rfl) (by first | exact .inl rfl | exact .inr (.inl rfl) | exact .inr (.inr rfl)) (by decide) (by decide)
      have s_name_X' : StoreAt X' 4 "name" := hb.store (by rw [nm.N]; rfl) (by first | exact .inl rfl | exact .inr rfl)
      have g_law_next_X' : Gl X' "_law_next" := hb.gl rfl
      have n_state_X' : NameAt X' 0 "state" := hb.name (by rw [nm.N]; rfl) (by first | exact .inl rfl | exact .inr (.inl rfl) | exact .inr (.inr rfl)) (by decide) (by decide)
      have n_some_X' : NameAt X' 2 "some" := hb.name (by rw [nm.N]; rfl) (by first | exact .inl rfl | exact .inr (.inl rfl) | exact .inr (.inr rfl)) (by decide) (by decide)
      row_cond go
      · rename_i r s2 hr hr' hs2 hz X2 hb2
        have hX_X2 := hb2.inn hX
        have hst_X2 := hX_X2.std
        have n_name_X2 : NameAt X2 4 "name" := hb2.name (by rw [nm.N]; rfl) (by first | exact .inl rfl | exact .inr (.inl rfl) | exact .inr (.inr rfl)) (by decide) (by decide)
        have s_name_X2 : StoreAt X2 4 "name" := hb2.store (by rw [nm.N]; rfl) (by first | exact .inl rfl | exact .inr rfl)
        have g_law_next_X2 : Gl X2 "_law_next" := hb2.gl rfl
        have n_state_X2 : NameAt X2 0 "state" := hb2.name (by rw [nm.N]; rfl) (by first | exact .inl rfl | exact .inr (.inl rfl) | exact .inr (.inr rfl)) (by decide) (by decide)
        have n_some_X2 : NameAt X2 2 "some" := hb2.name (by rw [nm.N]; rfl) (by first | exact .inl rfl | exact .inr (.inl rfl) | exact .inr (.inr rfl)) (by decide) (by decide)
        row_cond go
        refine lcend_id (by rw [List.length_map]; show _ < 16777216; omega) ⟨ys ++ [y], _, by rw [List.map_append]; rfl, rfl, ?_, hs2⟩
        rw [e]; exact hsub.append (.refl _)
      · rename_i r s2 hr hr' hs2 hz
        refine ⟨_, _, rfl, ys, _, rfl, rfl, ?_, hs2⟩
        rw [e]; exact hsub.trans (List.sublist_append_left _ _)
    · obtain ⟨ys, st, rfl, rfl, hsub, hs⟩ := hW
      rw [List.length_map, List.take_length] at hsub
      row_cond go
      exact ⟨_, _, _, rfl, hsub, hs⟩
  clear hs hs1
  rintro Γ ⟨ys, st, q, rfl, hsub, hs⟩
  have hyl := hsub.length_le
  refine wss_cons ?_
  refine ws_mid (fun Γ => ∃ (ys : List Str) (st : D) (q : Addr), Γ = ⟨[some (.ref p), some dn, some (.int (2 + r1)), some (.ref q), none], [(q, .lst (ys.map D.str)), (p, st)], R⟩ ∧ ys.Nodup ∧ 0 < ys.length ∧ ys.length ≤ 4000 ∧ (∀ n ∈ ys, n ∈ xs) ∧ DrawSt st) ?_ ?_
  · refine ws_wk ?_
    row_cond go
    · rename_i r s2 hr hr' hs2 y hy q2
      exact ⟨_, wk_sub (.cons₂ _ (.cons _ (.refl _))), [y], _, _, rfl, by simp, by simp, by simp, fun n hn => by rw [List.mem_singleton.mp hn]; exact List.mem_of_getElem? hy, hs2⟩
    · rename_i hz
      exact ⟨_, .refl _, ys, _, _, rfl, hsub.nodup nd, by omega, by omega, fun n hn => hsub.subset hn, hs⟩
  clear hs hyl hsub
  rintro Γ ⟨ys, st, q, rfl, hnd, h0, h1, hsub, hs⟩
  row_cond go
  exact rt1 (hq _ _ (lotOk_srt hnd) (by rw [srt_len]; exact h0) (by rw [srt_len]; exact h1) (fun n hn => hsub n (mem_srt.mp hn)) hs)

end K50


namespace K50
open PySem PySem.Spec PyProof.Rows L2 DL
local macro_rules | `(tactic| row_cond dcall) => `(tactic| first
  | ((with_reducible refine' we_callS (x := "make_lot") ?c ?x ?j ?g ?d ?e ?_); (case c => assumption); (case x => assumption); (case j => first | decide | exact Nat.le_refl _ | omega); (case g => assumption); (case d => decide); (case e => rfl))
  | ((with_reducible refine' we_call (x := "make_ledger") ?c ?x ?j ?g ?d ?e ?p ?_); (case c => assumption); (case x => assumption); (case j => first | decide | exact Nat.le_refl _ | omega); (case g => assumption); (case d => decide); (case e => rfl); (case p => rfl))
  | ((with_reducible refine' we_call (x := "freed") ?c ?x ?j ?g ?d ?e ?p ?_); (case c => assumption); (case x => assumption); (case j => first | decide | exact Nat.le_refl _ | omega); (case g => assumption); (case d => decide); (case e => rfl); (case p => rfl))
  | ((with_reducible refine' we_call (x := "reduced") ?c ?x ?j ?g ?d ?e ?p ?_); (case c => assumption); (case x => assumption); (case j => first | decide | exact Nat.le_refl _ | omega); (case g => assumption); (case d => decide); (case e => rfl); (case p => rfl))
  | ((with_reducible refine' we_call (x := "_law_mix") ?c ?x ?j ?g ?d ?e ?p ?_); (case c => assumption); (case x => assumption); (case j => first | decide | exact Nat.le_refl _ | omega); (case g => assumption); (case d => decide); (case e => rfl); (case p => rfl))
  | ((with_reducible refine' we_call (x := "_law_start") ?c ?x ?j ?g ?d ?e ?p ?_); (case c => assumption); (case x => assumption); (case j => first | decide | exact Nat.le_refl _ | omega); (case g => assumption); (case d => decide); (case e => rfl); (case p => rfl))
  | ((with_reducible refine' we_call1 (x := "_law_next") ?c ?x ?j ?g ?d ?e ?p ?_); (case c => assumption); (case x => assumption); (case j => first | decide | exact Nat.le_refl _ | omega); (case g => assumption); (case d => decide); (case e => rfl); (case p => rfl))
  | ((with_reducible refine' we_call (x := "_law_is") ?c ?x ?j ?g ?d ?e ?p ?_); (case c => assumption); (case x => assumption); (case j => first | decide | exact Nat.le_refl _ | omega); (case g => assumption); (case d => decide); (case e => rfl); (case p => rfl))
  | ((with_reducible refine' we_call1 (x := "_law_names") ?c ?x ?j ?g ?d ?e ?p ?_); (case c => assumption); (case x => assumption); (case j => first | decide | exact Nat.le_refl _ | omega); (case g => assumption); (case d => decide); (case e => rfl); (case p => rfl))
  | ((with_reducible refine' we_call1 (x := "_law_lot") ?c ?x ?j ?g ?d ?e ?p ?_); (case c => assumption); (case x => assumption); (case j => first | decide | exact Nat.le_refl _ | omega); (case g => assumption); (case d => decide); (case e => rfl); (case p => rfl))
  | ((with_reducible refine' we_call1 (x := "_law_ledger") ?c ?x ?j ?g ?d ?e ?p ?_); (case c => assumption); (case x => assumption); (case j => first | decide | exact Nat.le_refl _ | omega); (case g => assumption); (case d => decide); (case e => rfl); (case p => rfl))
  | ((with_reducible refine' we_call1 (x := "_law_turned") ?c ?x ?j ?g ?d ?e ?p ?_); (case c => assumption); (case x => assumption); (case j => first | decide | exact Nat.le_refl _ | omega); (case g => assumption); (case d => decide); (case e => rfl); (case p => rfl))
  | ((with_reducible refine' we_call (x := "_law_reduced") ?c ?x ?j ?g ?d ?e ?p ?_); (case c => assumption); (case x => assumption); (case j => first | decide | exact Nat.le_refl _ | omega); (case g => assumption); (case d => decide); (case e => rfl); (case p => rfl))
  | ((with_reducible refine' we_call (x := "_law_freed") ?c ?x ?j ?g ?d ?e ?p ?_); (case c => assumption); (case x => assumption); (case j => first | decide | exact Nat.le_refl _ | omega); (case g => assumption); (case d => decide); (case e => rfl); (case p => rfl))
  | ((with_reducible refine' we_call1 (x := "_law_lots") ?c ?x ?j ?g ?d ?e ?p ?_); (case c => assumption); (case x => assumption); (case j => first | decide | exact Nat.le_refl _ | omega); (case g => assumption); (case d => decide); (case e => rfl); (case p => rfl))
  | ((with_reducible refine' we_call (x := "law") ?c ?x ?j ?g ?d ?e ?p ?_); (case c => assumption); (case x => assumption); (case j => first | decide | exact Nat.le_refl _ | omega); (case g => assumption); (case d => decide); (case e => rfl); (case p => rfl)))
/-! the steps: one line a construct -/
local macro_rules | `(tactic| row_cond dlen) => `(tactic| (intro ds M R Q h; first | (obtain ⟨h1, _⟩ := h; subst h1; rfl) | (obtain ⟨_, h1, _⟩ := h; subst h1; rfl) | (obtain ⟨_, _, h1, _⟩ := h; subst h1; rfl) | (obtain ⟨_, _, _, h1, _⟩ := h; subst h1; rfl) | (obtain ⟨_, _, _, _, h1, _⟩ := h; subst h1; rfl) | (obtain ⟨_, _, _, _, _, h1, _⟩ := h; subst h1; rfl) | (obtain ⟨_, _, _, _, _, _, h1, _⟩ := h; subst h1; rfl) | (obtain ⟨_, _, _, _, _, _, _, h1, _⟩ := h; subst h1; rfl) | (obtain ⟨_, _, _, _, _, _, _, _, h1, _⟩ := h; subst h1; rfl) | (obtain ⟨_, _, _, _, _, _, _, _, _, h1, _⟩ := h; subst h1; rfl) | (obtain ⟨_, _, _, _, _, _, _, _, _, _, h1, _⟩ := h; subst h1; rfl) | (obtain ⟨_, _, _, _, _, _, _, _, _, _, _, h1, _⟩ := h; subst h1; rfl) | (obtain ⟨_, _, _, _, _, _, _, _, _, _, _, _, h1, _⟩ := h; subst h1; rfl)))
local macro_rules | `(tactic| row_cond dsz) => `(tactic| first | exact Nat.le_of_ble_eq_true rfl | assumption | (simp only [List.length_map, List.length_cons, List.length_append, List.length_nil, List.length_reverse, List.length_take, List.length_drop, PySem.sizeLine]; omega))
/- expressions -/
local macro_rules | `(tactic| row_cond dE) => `(tactic| first
  | ((with_reducible refine' we_name ?n ?e ?_); (case n => assumption); (case e => rfl))
  | (with_reducible refine we_int ?_)
  | (with_reducible refine we_bl ?_)
  | (with_reducible refine we_str ?_)
  | (with_reducible refine we_non ?_)
  | (with_reducible refine we_bin ?_)
  | ((with_reducible refine' we_cmp ?n ?_); (case n => rfl))
  | (with_reducible refine we_slice ?_)
  | (with_reducible refine we_rev ?_)
  | ((with_reducible refine' we_ix ?n ?_); (case n => exact fun _ _ => rfl))
  | (with_reducible refine we_tupV ?_)
  | (with_reducible refine we_lstV ?_)
  | ((with_reducible refine' we_blt ?b ?n ?m ?_); (case b => assumption); (case n => rfl); (case m => rfl))
  | ((with_reducible refine' we_typ ?b ?n ?m ?_); (case b => assumption); (case n => rfl); (case m => rfl))
  | ((with_reducible refine' we_tyName ?b ?_); (case b => assumption))
  | (with_reducible refine we_one ?_)
  | (with_reducible refine we_and ?_)
  | (with_reducible refine we_or ?_)
  | (with_reducible refine we_not ?_)
  | (with_reducible refine we_ifexp ?_)
  | ((with_reducible refine' we_un ?n ?_); (case n => exact fun z => nomatch z))
  | row_cond dcall
  | ((with_reducible refine we_bm (T := "list") PySem.F.plainAttrs_list PySem.F.slot_list_append PySem.F.type_list_append ?a ?b ?c ?d ?e ?_); (case a => rfl); (case b => rfl); (case c => rfl); (case d => rfl); (case e => rfl))
  | ((with_reducible refine we_bm0 (T := "list") PySem.F.plainAttrs_list PySem.F.slot_list_pop PySem.F.type_list_pop ?a ?b ?_); (case a => rfl); (case b => rfl))
  | ((with_reducible refine we_bm (T := "list") PySem.F.plainAttrs_list PySem.F.slot_list_extend PySem.F.type_list_extend ?a ?b ?c ?d ?e ?_); (case a => rfl); (case b => rfl); (case c => rfl); (case d => rfl); (case e => rfl)))
/- tests -/
local macro_rules | `(tactic| row_cond dT) => `(tactic| first
  | ((with_reducible refine' wt_cmp ?n ?_); (case n => rfl))
  | (with_reducible refine wt_not ?_)
  | (with_reducible refine wt_bool ?_)
  | (with_reducible refine ww_and1 ?_)
  | (with_reducible refine ww_or1 ?_)
  | (with_reducible refine ww_and ?_)
  | (with_reducible refine ww_or ?_)
  | ((with_reducible refine' wt_val ?n ?_); (case n => exact fun _ => rfl)))
/- statements -/
local macro_rules | `(tactic| row_cond dS) => `(tactic| first
  | (with_reducible refine wss_cons ?_)
  | (with_reducible refine wss_nil ?_)
  | ((with_reducible refine' ws_set ?a ?n ?h ?_); (case a => assumption); (case n => assumption); (case h => rfl))
  | ((with_reducible refine' ws_sub ?h ?_); (case h => rfl))
  | ((with_reducible refine' ws_asg ?a ?n ?h ?_); (case a => rfl); (case n => rfl); (case h => rfl))
  | (with_reducible refine ws_if ?_)
  | row_cond dret
  | ((with_reducible refine' ws_expr ?h ?_); (case h => rfl))
  | (with_reducible refine ws_pass ?_)
  | (with_reducible refine ws_break ?_)
  | (with_reducible refine ws_continue ?_)
  | (with_reducible refine ws_retN ?_))
local macro_rules | `(tactic| row_cond dSn) => `(tactic| first
  | (with_reducible refine wss_cons ?_)
  | (with_reducible refine wss_nil ?_)
  | ((with_reducible refine' ws_set ?a ?n ?h ?_); (case a => assumption); (case n => assumption); (case h => rfl))
  | ((with_reducible refine' ws_sub ?h ?_); (case h => rfl))
  | ((with_reducible refine' ws_asg ?a ?n ?h ?_); (case a => rfl); (case n => rfl); (case h => rfl))
  | row_cond dret
  | ((with_reducible refine' ws_expr ?h ?_); (case h => rfl))
  | (with_reducible refine ws_pass ?_)
  | (with_reducible refine ws_break ?_)
  | (with_reducible refine ws_continue ?_)
  | (with_reducible refine ws_retN ?_))
/- arguments, targets, values -/
local macro_rules | `(tactic| row_cond dV) => `(tactic| first
  | (with_reducible refine wa_nil ?_)
  | ((with_reducible refine' wa_cons ?n ?_); (case n => rfl))
  | (with_reducible refine wav_nil ?_)
  | ((with_reducible refine' wav_cons ?n ?_); (case n => rfl))
  | (with_reducible refine put_go ?_)
  | (with_reducible refine fz_lst ?_)
  | (with_reducible refine fz_tup ?_)
  | (with_reducible refine fz_id ?_)
  | (with_reducible refine own0_go ?_)
  | (with_reducible refine own1_go ?_)
  | (with_reducible refine app_go ?_)
  | (with_reducible refine mset_go ?_)
  | ((with_reducible refine' wg_name ?a ?n ?_); (case a => assumption); (case n => assumption))
  | ((with_reducible refine' wg_tup ?a ?n ?h ?_); (case a => assumption); (case n => rfl); (case h => rfl))
  | (with_reducible refine wgs_nil ?_)
  | ((with_reducible refine' wgs_cons ?n ?_); (case n => rfl))
  | (with_reducible refine wpt_none ?_)
  | (with_reducible refine wpt_some ?_)
  | ((with_reducible refine' wset_list ?n ?_); (case n => first | rfl | row_cond dix)))
/- what is walked -/
local macro_rules | `(tactic| row_cond dI) => `(tactic| first
  | ((with_reducible refine' wi_range1 ?a ?b ?c ?_); (case a => exact BltAt.gl (by assumption)); (case b => exact BltAt.mg (by assumption)); (case c => rfl))
  | ((with_reducible refine' wi_range2 ?a ?b ?c ?d ?_); (case a => exact BltAt.gl (by assumption)); (case b => exact BltAt.mg (by assumption)); (case c => rfl); (case d => rfl))
  | (with_reducible refine wi_val ?_)
  | (with_reducible refine wiv_list ?_)
  | (with_reducible refine wiv_tup ?_)
  | (with_reducible refine wiv_seq ?_)
  | ((with_reducible refine' wgc_name ?a ?n ?h ?_); (case a => assumption); (case n => assumption); (case h => decide))
  | ((with_reducible refine' wgc_tup ?a ?n ?h ?_); (case a => assumption); (case n => rfl); (case h => rfl))
  | (with_reducible refine wgcs_nil ?_)
  | ((with_reducible refine' wgcs_cons ?n ?_); (case n => rfl))
  | (with_reducible refine wts_nil ?_)
  | (with_reducible refine wts_one ?_))
/- operations by values -/
local macro_rules | `(tactic| row_cond dO) => `(tactic| first
  | (with_reducible refine wo_add ?_)
  | (with_reducible refine wo_sub ?_)
  | ((with_reducible refine' wo_mulS ?n ?_); (case n => first | exact .inr ⟨by decide, by decide⟩ | exact .inl ⟨by decide, by decide⟩ | exact .inr ⟨by omega, by omega⟩ | exact .inl ⟨by omega, by omega⟩))
  | ((with_reducible refine' wo_fdiv ?n ?m ?_); (case n => first | decide | omega); (case m => first | decide | row_cond dlog))
  | ((with_reducible refine' wo_mod ?n ?_); (case n => first | decide | omega))
  | (with_reducible refine wo_powL ?_)
  | ((with_reducible refine' wo_pow ?n ?_); (case n => exact ⟨by decide, by decide, by decide⟩))
  | (with_reducible refine wo_xor ?_)
  | (with_reducible refine wo_lt ?_)
  | (with_reducible refine wo_le ?_)
  | (with_reducible refine wo_gt ?_)
  | (with_reducible refine wo_ge ?_)
  | (with_reducible refine wo_eqI ?_)
  | (with_reducible refine wo_neI ?_)
  | (with_reducible refine wo_eqS ?_)
  | (with_reducible refine wo_neS ?_)
  | (with_reducible refine wo_isN ?_)
  | (with_reducible refine wo_isnotN ?_)
  | (with_reducible refine wu_neg ?_)
  | (with_reducible refine wc_int ?_)
  | (with_reducible refine wc_intB ?_)
  | (with_reducible refine wc_abs ?_)
  | ((with_reducible refine' wc_max2 ?a ?_); (case a => assumption))
  | ((with_reducible refine' wc_min2 ?a ?_); (case a => assumption))
  | (with_reducible refine wc_list ?_)
  | (with_reducible refine wc_tuple ?_)
  | ((with_reducible refine' wc_lenS ?a ?_); (case a => row_cond dsz))
  | (with_reducible refine wc_lenM ?_)
  | (with_reducible refine wc_len ?_)
  | (with_reducible refine wc_isK ?_)
  | ((with_reducible refine' wc_allM ?a ?_); (case a => assumption))
  | ((with_reducible refine' wc_anyM ?a ?_); (case a => assumption))
  | ((with_reducible refine' wc_sum ?a ?_); (case a => assumption))
  | ((with_reducible refine' wx_list ?n ?_); (case n => row_cond dat))
  | ((with_reducible refine' wx_map ?a ?b ?_); (case a => omega); (case b => omega))
  | ((with_reducible refine' wx_seq ?a ?b ?_); (case a => omega); (case b => omega))
  | ((with_reducible refine' wx_tup ?n ?_); (case n => row_cond dat))
  | (with_reducible refine wsl_listM ?_)
  | (with_reducible refine wsl_list ?_)
  | (with_reducible refine wrev_goM ?_)
  | (with_reducible refine wrev_go ?_)
  | ((with_reducible refine' wo_catM ?n ?_); (case n => row_cond dsz))
  | ((with_reducible refine' wo_cat ?n ?_); (case n => row_cond dsz))
  | ((with_reducible refine' wm_append ?n ?_); (case n => row_cond dsz)))
local macro_rules | `(tactic| row_cond dat) => `(tactic| rfl)
local macro_rules | `(tactic| row_cond dix) => `(tactic| rfl)
local macro_rules | `(tactic| row_cond dlog) => `(tactic| first | decide | exact log_small (by omega) (by omega))
/- what stands between -/
local macro_rules | `(tactic| row_cond dQ) => `(tactic| first
  | (with_reducible refine ⟨_, rfl, ?_⟩)
  | (with_reducible refine br_true ?_)
  | (with_reducible refine br_false ?_)
  | (with_reducible refine rb_true ?_)
  | (with_reducible refine rb_false ?_)
  | ((with_reducible refine' br_dec ?_ ?_) <;> intro _)
  | ((with_reducible refine' br_ndec ?_ ?_) <;> intro _)
  | ((with_reducible refine' rb_dec ?_ ?_) <;> intro _)
  | ((with_reducible refine' rb_ndec ?_ ?_) <;> intro _)
  | (refine br_is rfl ?_)
  | (refine br_isnot rfl ?_)
  | (refine rb_is rfl ?_)
  | (refine rb_isnot rfl ?_)
  | ((with_reducible refine' ⟨⟨?a, ?b⟩, ?_⟩); (case a => omega); (case b => omega))
  | ((with_reducible refine' ⟨⟨?a, ?b, ?c, ?d⟩, ?_⟩); (case a => omega); (case b => omega); (case c => omega); (case d => omega))
  | (with_reducible refine app_go ?_)
  | (with_reducible refine ⟨tym_list, ?_⟩)
  | (with_reducible refine ⟨tym_str, ?_⟩)
  | ((with_reducible refine ⟨?n, ?_⟩); (case n => (show _ ≤ PySem.sizeLine); row_cond dsz))
  | (with_reducible intro _))
local macro_rules | `(tactic| row_cond dstart) => `(tactic| simp only [startD, List.map_cons, List.map_nil, List.length_cons, List.length_nil, List.cons_append, List.nil_append, Nat.zero_add, Nat.reduceAdd, Nat.reduceSub, List.replicate_succ, List.replicate_zero])
local macro_rules | `(tactic| row_cond d) => `(tactic| first | row_cond dE | row_cond dV | row_cond dO | row_cond dT | row_cond dS | row_cond dI | row_cond dmore | row_cond dspec | row_cond dQ)
local macro_rules | `(tactic| row_cond dn) => `(tactic| first | row_cond dE | row_cond dV | row_cond dO | row_cond dT | row_cond dSn | row_cond dI | row_cond dmore | row_cond dspec | row_cond dQ)
local macro_rules | `(tactic| row_cond gon) => `(tactic| repeat' (row_cond dn))
local macro_rules | `(tactic| row_cond go) => `(tactic| repeat' (row_cond d))
/- the later parts of the layer -/
local macro_rules | `(tactic| row_cond dE) => `(tactic| first
  | ((with_reducible refine' we_sortedSet ?a ?b ?c ?d ?e ?_); (case a => assumption); (case b => assumption); (case c => assumption); (case d => rfl); (case e => rfl))
  | ((with_reducible refine' we_get2 ?a ?b ?_); (case a => assumption); (case b => exact ⟨rfl, rfl, rfl, rfl⟩))
  | ((with_reducible refine' we_get1 ?a ?b ?_); (case a => assumption); (case b => exact ⟨rfl, rfl, rfl, rfl⟩))
  | ((with_reducible refine' we_pop1 ?b ?_); (case b => exact ⟨rfl, rfl, rfl, rfl⟩)))
local macro_rules | `(tactic| row_cond dO) => `(tactic| first
  | ((with_reducible refine' wc_sorted ?a ?b ?c ?_); (case a => assumption); (case b => decide); (case c => first | exact fun _ _ => trivial | assumption))
  | ((with_reducible refine' wsorted_go ?a ?_); (case a => first | assumption | omega))
  | ((with_reducible refine' wo_inD ?a ?b ?_); (case a => assumption); (case b => decide))
  | ((with_reducible refine' wo_ninD ?a ?b ?_); (case a => assumption); (case b => decide))
  | (with_reducible refine getD_K ?_)
  | (with_reducible refine getD_T ?_)
  | ((with_reducible refine' wsl_txt ?a ?_); (case a => row_cond dsz))
  | ((with_reducible refine' wx_strN ?a ?b ?c ?_); (case a => row_cond dsz); (case b => omega); (case c => first | omega | (simp only [PySem.Str.length]; omega)))
  | (with_reducible refine ⟨isDD_K, ?_⟩)
  | (with_reducible refine ⟨isDD_T, ?_⟩))
local macro_rules | `(tactic| row_cond dO) => `(tactic| first
  | ((with_reducible refine' wm_appendM ?n ?_); (case n => row_cond dsz)))
local macro_rules | `(tactic| row_cond dE) => `(tactic| ((with_reducible refine' we_con ?c ?_); (case c => assumption)))
local macro_rules | `(tactic| row_cond dV) => `(tactic| first
  | (with_reducible refine wk_nil ?_)
  | (with_reducible refine wk_cons ?_)
  | (with_reducible refine ⟨rfl, rfl, ?_⟩))
local macro_rules | `(tactic| row_cond dI) => `(tactic| ((with_reducible refine' wi_range3 ?a ?b ?c ?d ?_); (case a => exact BltAt.gl (by assumption)); (case b => exact BltAt.mg (by assumption)); (case c => rfl); (case d => rfl)))
local macro_rules | `(tactic| row_cond dO) => `(tactic| first
  | ((with_reducible refine' wc_lenS ?a ?_); (case a => row_cond dsz)))
local macro_rules | `(tactic| row_cond dO) => `(tactic| first
  | ((with_reducible refine' wo_addS ?a ?_); (case a => row_cond dsz)))
local macro_rules | `(tactic| row_cond dO) => `(tactic| first
  | ((with_reducible refine' wo_addS2 ?a ?_); (case a => first | decide | omega))
  | ((with_reducible refine' wsl_txt2 ?a ?_); (case a => first | decide | omega))
  | ((with_reducible refine' wc_lenS2 ?a ?_); (case a => first | decide | omega)))
local macro_rules | `(tactic| row_cond dE) => `(tactic| first
  | ((with_reducible refine we_bm (T := "str") PySem.F.plainAttrs_str PySem.F.slot_str_index PySem.F.type_str_index ?a ?b ?c ?d ?e ?_); (case a => rfl); (case b => rfl); (case c => rfl); (case d => rfl); (case e => rfl))
  | ((with_reducible refine we_bm (T := "str") PySem.F.plainAttrs_str PySem.F.slot_str_join PySem.F.type_str_join ?a ?b ?c ?d ?e ?_); (case a => rfl); (case b => rfl); (case c => rfl); (case d => rfl); (case e => rfl))
  | ((with_reducible refine we_bm (T := "str") PySem.F.plainAttrs_str PySem.F.slot_str_startswith PySem.F.type_str_startswith ?a ?b ?c ?d ?e ?_); (case a => rfl); (case b => rfl); (case c => rfl); (case d => rfl); (case e => rfl)))
local macro_rules | `(tactic| row_cond dO) => `(tactic| first
  | (with_reducible refine wm_starts ?_))
local macro_rules | `(tactic| row_cond dret) => `(tactic| (with_reducible refine ws_ret ?_))
local macro_rules | `(tactic| row_cond dO) => `(tactic| first
  | ((with_reducible refine' wx_asK ?a ?b ?_); (case a => assumption); (case b => assumption))
  | ((with_reducible refine' wo_inAsK ?a ?_); (case a => assumption))
  | ((with_reducible refine' wo_ninAsK ?a ?_); (case a => assumption))
  | ((with_reducible refine' wset_asK ?a ?b ?_); (case a => assumption); (case b => row_cond dsz))
  | (with_reducible refine getD_asK ?_)
  | ((with_reducible refine' popD_asK ?b ?_); (case b => assumption))
  | ((with_reducible refine' wx_asT ?a ?b ?_); (case a => assumption); (case b => assumption))
  | ((with_reducible refine' wo_inAsT ?a ?_); (case a => assumption))
  | ((with_reducible refine' wo_ninAsT ?a ?_); (case a => assumption))
  | ((with_reducible refine' wset_asT ?a ?b ?_); (case a => assumption); (case b => row_cond dsz))
  | (with_reducible refine getD_asT ?_)
  | ((with_reducible refine' wc_sortedAs ?a ?_); (case a => assumption)))
local macro_rules | `(tactic| row_cond dO) => `(tactic| first
  | (with_reducible refine wc_lenAsK ?_)
  | (with_reducible refine wc_lenAsT ?_))
local macro_rules | `(tactic| row_cond dI) => `(tactic| first
  | (with_reducible refine wiv_asK ?_))
local macro_rules | `(tactic| row_cond dV) => `(tactic| (with_reducible refine star_go ?_))
local macro_rules | `(tactic| row_cond dO) => `(tactic| first
  | ((with_reducible refine' wc_sortedAsT ?a ?b ?_); (case a => assumption); (case b => assumption))
  | ((with_reducible refine' wm_insert ?a ?b ?c ?_); (case a => row_cond dsz); (case b => omega); (case c => omega)))
local macro_rules | `(tactic| row_cond dE) => `(tactic| first
  | ((with_reducible refine we_bm (T := "list") PySem.F.plainAttrs_list PySem.F.slot_list_insert PySem.F.type_list_insert ?a ?b ?c ?d ?e ?_); (case a => rfl); (case b => rfl); (case c => rfl); (case d => rfl); (case e => rfl)))

local macro_rules | `(tactic| row_cond dspec) => `(tactic| first
  | ((with_reducible refine' sp_law_next_go ?a ?b ?c ?_); (case a => assumption); (case b => first | decide | omega | (split <;> omega)); (case c => first | decide | omega | (split <;> omega)))
  | (with_reducible refine sp_law_mix_go ?_))
local macro_rules | `(tactic| row_cond dmore) => `(tactic| first
  | (with_reducible refine ⟨_, [], rfl, ?_⟩))

/-! ### ledgers, lots, names as the law draws them -/
def sp_law_ledger : SpD := fun ds M R Q => ∃ (p : Addr) (st : D) (xs os : List Str) (n : Int), ds = [.ref p, .lst (xs.map D.str), .lst (os.map D.str), .int n] ∧ M = [(p, st)] ∧ DrawSt st ∧ xs.length ≤ 400 ∧ os.length ≤ 400 ∧ 0 < xs.length ∧ (xs ++ os).Nodup ∧ 0 ≤ n ∧ n ≤ 400 ∧ ∀ (L : Lg) (st' : D), LgOk L → (∀ r ∈ L, 0 < r.1.length) → L.length ≤ 400 → DrawSt st' → Q (.lst (L.map encRow)) [(p, st')]
theorem sp_dlot_go {p : Addr} {st dn : D} {xs : List Str} {R : Mem} {Q : D → Mem → Prop} [s : SeeL [] R dn (xs.map D.str)] (hs : DrawSt st) (hz : xs.length ≤ 4000) (h0 : 0 < xs.length) (nd : xs.Nodup) (q : ∀ (l : Lot) (st' : D), LotOk l → 0 < l.length → l.length ≤ 4000 → (∀ n ∈ l, n ∈ xs) → DrawSt st' → Q (encLot l) [(p, st')]) : sp_law_lot [.ref p, dn] [(p, st)] R Q := ⟨p, st, dn, xs, rfl, rfl, hs, s.see, hz, h0, nd, q⟩
theorem sp_turn_go {p : Addr} {st dn : D} {xs : List Str} {R : Mem} {Q : D → Mem → Prop} [s : SeeL [] R dn (xs.map D.str)] (hs : DrawSt st) (hz : xs.length ≤ 4000) (q : ∀ (ys : List Str) (st' : D), ys.Perm xs → DrawSt st' → Q (.lst (ys.map D.str)) [(p, st')]) : sp_law_turned [.ref p, dn] [(p, st)] R Q := ⟨p, st, dn, xs, rfl, rfl, hs, s.see, hz, q⟩
local macro_rules | `(tactic| row_cond dspec) => `(tactic| first
  | ((with_reducible refine' sp_dlot_go ?a ?b ?c ?d ?_); (case a => assumption); (case b => first | omega | (simp only [List.length_append]; omega)); (case c => first | omega | (simp only [List.length_append]; omega)); (case d => assumption)))
theorem putE_mem {α β : Type} [DecidableEq α] {es : List (α × β)} {a : α} {b : β} {r : α × β} (h : r ∈ putE es a b) : r ∈ es ∨ r = (a, b) := by
  unfold putE at h
  split at h
  · obtain ⟨e, he, rfl⟩ := List.mem_map.mp h
    split
    · rename_i z; right; rw [z]
    · exact .inl he
  · rcases List.mem_append.mp h with h | h
    · exact .inl h
    · exact .inr (List.mem_singleton.mp h)
def RowOk (r : Lot × Int) : Prop := LotOk r.1 ∧ r.1.length ≤ 4000 ∧ 0 < r.2 ∧ 0 < r.1.length
local macro_rules | `(tactic| row_cond dret) => `(tactic| (with_reducible refine ws_retV ?_))
theorem cal_law_ledger {P : Program} {w : World} {K : PySem.W.Frag} {mg : Str → Option Value} {base : Heap} (T : Tx mg) (Da : DefAt K mg "_law_ledger" s_law_ledger) (c_law_lot : Cal P w K mg base 3 "_law_lot" sp_law_lot) (c_law_next : Cal P w K mg base 2 "_law_next" sp_law_next) : Cal P w K mg base (4) "_law_ledger" sp_law_ledger := by
  refine calD (k := 3) Da sc_law_ledger (fun f fd Fu => Fu.binds fun _ _ _ _ _ _ us hl => match us, hl with | [_, _, _, _], _ => rfl) (by row_cond dlen) (fun X F hX nm ds M R Q hS => ?_)
  have hst := hX.std
  have n_state : NameAt X 0 "state" := nm.name rfl (.inl rfl) (by decide) (by decide)
  have s_state : StoreAt X 0 "state" := nm.store rfl (.inl rfl)
  have n_names : NameAt X 1 "names" := nm.name rfl (.inl rfl) (by decide) (by decide)
  have s_names : StoreAt X 1 "names" := nm.store rfl (.inl rfl)
  have n_others : NameAt X 2 "others" := nm.name rfl (.inl rfl) (by decide) (by decide)
  have s_others : StoreAt X 2 "others" := nm.store rfl (.inl rfl)
  have n_rows : NameAt X 3 "rows" := nm.name rfl (.inl rfl) (by decide) (by decide)
  have s_rows : StoreAt X 3 "rows" := nm.store rfl (.inl rfl)
  have n_table : NameAt X 4 "table" := nm.name rfl (.inr rfl) (by decide) (by decide)
  have s_table : StoreAt X 4 "table" := nm.store rfl (.inr rfl)
  have n_k : NameAt X 5 "k" := nm.name rfl (.inl rfl) (by decide) (by decide)
  have s_k : StoreAt X 5 "k" := nm.store rfl (.inl rfl)
  have n_lot : NameAt X 6 "lot" := nm.name rfl (.inl rfl) (by decide) (by decide)
  have s_lot : StoreAt X 6 "lot" := nm.store rfl (.inl rfl)
  have n_most : NameAt X 7 "most" := nm.name rfl (.inl rfl) (by decide) (by decide)
  have s_most : StoreAt X 7 "most" := nm.store rfl (.inl rfl)
  have b_range : BltAt X "range" (.type "range") := nm.blt hX rfl T.z_range bo_range (by decide) (by decide)
  have g_law_lot : Gl X "_law_lot" := nm.gl rfl
  have b_len : BltAt X "len" (.builtin "len") := nm.blt hX rfl T.z_len bo_len (by decide) (by decide)
  have g_law_next : Gl X "_law_next" := nm.gl rfl
  have b_sorted : BltAt X "sorted" (.builtin "sorted") := nm.blt hX rfl T.z_sorted bo_sorted (by decide) (by decide)
  have m_range : X.mg "range" = none := by rw [hX.mg]; exact T.z_range
  obtain ⟨p, st, xs, os, n, rfl, rfl, hs, hx, ho, hx0, nd, hn0, hn1, hq⟩ := hS
  have ndx : xs.Nodup := (List.nodup_append.mp nd).1
  row_cond dstart
  refine wss_cons ?_
  row_cond gon
  refine we_newT fun q => ?_
  row_cond gon
  refine ws_mid (fun Γ => ∃ (st : D) (es : Lg) (k l m : Option D), Γ = ⟨[some (.ref p), some (.lst (xs.map D.str)), some (.lst (os.map D.str)), some (.int n), some (.ref q), k, l, m], [(q, .dT (asK gLot D.int es)), (p, st)], R⟩ ∧ DrawSt st ∧ (es.map (·.1)).Nodup ∧ es.length ≤ 400 ∧ ∀ r ∈ es, RowOk r) ?_ ?_
  · refine ws_forW hst (fun _ => rfl) ?_
    row_cond go
    refine ⟨fun i Γ => ∃ (st : D) (es : Lg) (k l m : Option D), Γ = ⟨[some (.ref p), some (.lst (xs.map D.str)), some (.lst (os.map D.str)), some (.int n), some (.ref q), k, l, m], [(q, .dT (asK gLot D.int es)), (p, st)], R⟩ ∧ DrawSt st ∧ (es.map (·.1)).Nodup ∧ es.length ≤ i ∧ ∀ r ∈ es, RowOk r, ⟨_, [], _, _, _, rfl, hs, List.nodup_nil, Nat.le_refl _, fun r h => by cases h⟩, fun _ _ _ => trivial, fun i x Γ hx' hW => ?_, fun Γ hW => ?_⟩
    · obtain ⟨st, es, k, l, m, rfl, hs, hnd, hl, hok⟩ := hW
      obtain ⟨hi, rfl⟩ := rngD_at hx'
      row_cond gon
      rename_i lot s1 h1 h2 h3 h4 hs1
      clear hs h4
      refine ws_mid (fun Γ => ∃ (st : D) (lot : Lot), Γ = ⟨[some (.ref p), some (.lst (xs.map D.str)), some (.lst (os.map D.str)), some (.int n), some (.ref q), some (.int (0 + (i : Int))), some (encLot lot), m], [(q, .dT (asK gLot D.int es)), (p, st)], R⟩ ∧ DrawSt st ∧ LotOk lot ∧ 0 < lot.length ∧ lot.length ≤ 4000) ?_ ?_
      · refine ws_wk ?_
        row_cond go
        · refine ⟨_, wk_sub (.cons _ (.refl _)), _, _, rfl, by assumption, by assumption, by assumption, by assumption⟩
        · exact ⟨_, .refl _, _, _, rfl, by assumption, h1, h2, h3⟩
        · exact ⟨_, .refl _, _, _, rfl, by assumption, h1, h2, h3⟩
      clear h1 h2 h3 hs1
      rintro Γ ⟨st, lot, rfl, hs, h1, h2, h3⟩
      row_cond gon
      refine ws_mid (fun Γ => ∃ (st : D) (v : Int), Γ = ⟨[some (.ref p), some (.lst (xs.map D.str)), some (.lst (os.map D.str)), some (.int n), some (.ref q), some (.int (0 + (i : Int))), some (encLot lot), some (.int v)], [(q, .dT (asK gLot D.int es)), (p, st)], R⟩ ∧ DrawSt st ∧ 0 < v ∧ v ≤ 1000000000) ?_ ?_
      · row_cond go
        all_goals exact ⟨_, _, rfl, by assumption, by omega, by omega⟩
      clear hs
      rintro Γ ⟨st, v, rfl, hs, hv0, hv1⟩
      row_cond go
      refine ⟨_, .refl _, _, _, _, _, _, rfl, by assumption, putE_nodup hnd _ _, Nat.le_trans (putE_len _ _ _) (by omega), fun r hr => ?_⟩
      rcases putE_mem hr with h | rfl
      · exact hok r h
      · exact ⟨h1, h3, by show 0 < 1 + _; omega, h2⟩
    · obtain ⟨st, es, k, l, m, rfl, hs, hnd, hl, hok⟩ := hW
      rw [rngD_len] at hl
      exact ⟨_, es, _, _, _, rfl, hs, hnd, by omega, hok⟩
  clear hs
  rintro Γ ⟨st, es, k, l, m, rfl, hs, hnd, hl, hok⟩
  have hP : ∀ e ∈ es, gLot e.1 ≠ [] := fun e he z => by
    have h4 := (hok e he).2.2.2
    rw [List.map_eq_nil_iff.mp z] at h4
    exact absurd h4 (by simp)
  have hrows := srtL_rows hnd
  row_cond go
  refine we_lc' hst (own := [("lot", 6)]) (nm.blk (by decide +kernel)) (fun _ => rfl) rfl ?_
  row_cond go
  refine lc_map hX (by rw [nm.N]; rfl) (.inl rfl) (fun l => encRow (l, (getE es l).getD 0)) (fun _ _ => (inferInstance : SeeL _ _ _ _).see) (by rw [srt_len, List.length_map]; omega) (fun a j l acc hl => put_go fun X' hb => ?_) (fun a => ?_)
  · obtain ⟨e, he, rfl⟩ := List.mem_map.mp (mem_srt.mp (List.mem_of_getElem? hl))
    have hg : getE es e.1 = some e.2 := getE_of hnd he
    have hX_X' := hb.inn hX
    have hst_X' := hX_X'.std
    have n_lot_X' : NameAt X' 6 "lot" := hb.name (by rw [nm.N]; rfl) (by first | exact .inl rfl | exact .inr (.inl rfl) | exact .inr (.inr rfl)) (by decide) (by decide)
    have s_lot_X' : StoreAt X' 6 "lot" := hb.store (by rw [nm.N]; rfl) (by first | exact .inl rfl | exact .inr rfl)
    have n_table_X' : NameAt X' 4 "table" := hb.name (by rw [nm.N]; rfl) (by first | exact .inl rfl | exact .inr (.inl rfl) | exact .inr (.inr rfl)) (by decide) (by decide)
    row_cond go
    exact ⟨by rw [hg]; rfl, _, rfl⟩
  · rw [show ((srt (ltL ltS) (es.map (·.1))).map fun l => encRow (l, (getE es l).getD 0)) = (srtL es).map encRow by rw [← hrows, List.map_map]; rfl]
    row_cond go
    have hsl : (srtL es).length = es.length := srt_len
    refine rt1 (hq _ _ ⟨by omega, fun r hr => ?_⟩ (fun r hr => ?_) (by omega) hs)
    · have := hok r (mem_srt.mp hr)
      exact ⟨this.1, this.2.1, this.2.2.1⟩
    · exact (hok r (mem_srt.mp hr)).2.2.2

end K50


namespace K50
open PySem PySem.Spec PyProof.Rows L2 DL
local macro_rules | `(tactic| row_cond dcall) => `(tactic| first
  | ((with_reducible refine' we_callS (x := "make_lot") ?c ?x ?j ?g ?d ?e ?_); (case c => assumption); (case x => assumption); (case j => first | decide | exact Nat.le_refl _ | omega); (case g => assumption); (case d => decide); (case e => rfl))
  | ((with_reducible refine' we_call (x := "make_ledger") ?c ?x ?j ?g ?d ?e ?p ?_); (case c => assumption); (case x => assumption); (case j => first | decide | exact Nat.le_refl _ | omega); (case g => assumption); (case d => decide); (case e => rfl); (case p => rfl))
  | ((with_reducible refine' we_call (x := "freed") ?c ?x ?j ?g ?d ?e ?p ?_); (case c => assumption); (case x => assumption); (case j => first | decide | exact Nat.le_refl _ | omega); (case g => assumption); (case d => decide); (case e => rfl); (case p => rfl))
  | ((with_reducible refine' we_call (x := "reduced") ?c ?x ?j ?g ?d ?e ?p ?_); (case c => assumption); (case x => assumption); (case j => first | decide | exact Nat.le_refl _ | omega); (case g => assumption); (case d => decide); (case e => rfl); (case p => rfl))
  | ((with_reducible refine' we_call (x := "_law_mix") ?c ?x ?j ?g ?d ?e ?p ?_); (case c => assumption); (case x => assumption); (case j => first | decide | exact Nat.le_refl _ | omega); (case g => assumption); (case d => decide); (case e => rfl); (case p => rfl))
  | ((with_reducible refine' we_call (x := "_law_start") ?c ?x ?j ?g ?d ?e ?p ?_); (case c => assumption); (case x => assumption); (case j => first | decide | exact Nat.le_refl _ | omega); (case g => assumption); (case d => decide); (case e => rfl); (case p => rfl))
  | ((with_reducible refine' we_call1 (x := "_law_next") ?c ?x ?j ?g ?d ?e ?p ?_); (case c => assumption); (case x => assumption); (case j => first | decide | exact Nat.le_refl _ | omega); (case g => assumption); (case d => decide); (case e => rfl); (case p => rfl))
  | ((with_reducible refine' we_call (x := "_law_is") ?c ?x ?j ?g ?d ?e ?p ?_); (case c => assumption); (case x => assumption); (case j => first | decide | exact Nat.le_refl _ | omega); (case g => assumption); (case d => decide); (case e => rfl); (case p => rfl))
  | ((with_reducible refine' we_call1 (x := "_law_names") ?c ?x ?j ?g ?d ?e ?p ?_); (case c => assumption); (case x => assumption); (case j => first | decide | exact Nat.le_refl _ | omega); (case g => assumption); (case d => decide); (case e => rfl); (case p => rfl))
  | ((with_reducible refine' we_call1 (x := "_law_lot") ?c ?x ?j ?g ?d ?e ?p ?_); (case c => assumption); (case x => assumption); (case j => first | decide | exact Nat.le_refl _ | omega); (case g => assumption); (case d => decide); (case e => rfl); (case p => rfl))
  | ((with_reducible refine' we_call1 (x := "_law_ledger") ?c ?x ?j ?g ?d ?e ?p ?_); (case c => assumption); (case x => assumption); (case j => first | decide | exact Nat.le_refl _ | omega); (case g => assumption); (case d => decide); (case e => rfl); (case p => rfl))
  | ((with_reducible refine' we_call1 (x := "_law_turned") ?c ?x ?j ?g ?d ?e ?p ?_); (case c => assumption); (case x => assumption); (case j => first | decide | exact Nat.le_refl _ | omega); (case g => assumption); (case d => decide); (case e => rfl); (case p => rfl))
  | ((with_reducible refine' we_call (x := "_law_reduced") ?c ?x ?j ?g ?d ?e ?p ?_); (case c => assumption); (case x => assumption); (case j => first | decide | exact Nat.le_refl _ | omega); (case g => assumption); (case d => decide); (case e => rfl); (case p => rfl))
  | ((with_reducible refine' we_call (x := "_law_freed") ?c ?x ?j ?g ?d ?e ?p ?_); (case c => assumption); (case x => assumption); (case j => first | decide | exact Nat.le_refl _ | omega); (case g => assumption); (case d => decide); (case e => rfl); (case p => rfl))
  | ((with_reducible refine' we_call1 (x := "_law_lots") ?c ?x ?j ?g ?d ?e ?p ?_); (case c => assumption); (case x => assumption); (case j => first | decide | exact Nat.le_refl _ | omega); (case g => assumption); (case d => decide); (case e => rfl); (case p => rfl))
  | ((with_reducible refine' we_call (x := "law") ?c ?x ?j ?g ?d ?e ?p ?_); (case c => assumption); (case x => assumption); (case j => first | decide | exact Nat.le_refl _ | omega); (case g => assumption); (case d => decide); (case e => rfl); (case p => rfl)))
/-! the steps: one line a construct -/
local macro_rules | `(tactic| row_cond dlen) => `(tactic| (intro ds M R Q h; first | (obtain ⟨h1, _⟩ := h; subst h1; rfl) | (obtain ⟨_, h1, _⟩ := h; subst h1; rfl) | (obtain ⟨_, _, h1, _⟩ := h; subst h1; rfl) | (obtain ⟨_, _, _, h1, _⟩ := h; subst h1; rfl) | (obtain ⟨_, _, _, _, h1, _⟩ := h; subst h1; rfl) | (obtain ⟨_, _, _, _, _, h1, _⟩ := h; subst h1; rfl) | (obtain ⟨_, _, _, _, _, _, h1, _⟩ := h; subst h1; rfl) | (obtain ⟨_, _, _, _, _, _, _, h1, _⟩ := h; subst h1; rfl) | (obtain ⟨_, _, _, _, _, _, _, _, h1, _⟩ := h; subst h1; rfl) | (obtain ⟨_, _, _, _, _, _, _, _, _, h1, _⟩ := h; subst h1; rfl) | (obtain ⟨_, _, _, _, _, _, _, _, _, _, h1, _⟩ := h; subst h1; rfl) | (obtain ⟨_, _, _, _, _, _, _, _, _, _, _, h1, _⟩ := h; subst h1; rfl) | (obtain ⟨_, _, _, _, _, _, _, _, _, _, _, _, h1, _⟩ := h; subst h1; rfl)))
local macro_rules | `(tactic| row_cond dsz) => `(tactic| first | exact Nat.le_of_ble_eq_true rfl | assumption | (simp only [List.length_map, List.length_cons, List.length_append, List.length_nil, List.length_reverse, List.length_take, List.length_drop, PySem.sizeLine]; omega))
/- expressions -/
local macro_rules | `(tactic| row_cond dE) => `(tactic| first
  | ((with_reducible refine' we_name ?n ?e ?_); (case n => assumption); (case e => rfl))
  | (with_reducible refine we_int ?_)
  | (with_reducible refine we_bl ?_)
  | (with_reducible refine we_str ?_)
  | (with_reducible refine we_non ?_)
  | (with_reducible refine we_bin ?_)
  | ((with_reducible refine' we_cmp ?n ?_); (case n => rfl))
  | (with_reducible refine we_slice ?_)
  | (with_reducible refine we_rev ?_)
  | ((with_reducible refine' we_ix ?n ?_); (case n => exact fun _ _ => rfl))
  | (with_reducible refine we_tupV ?_)
  | (with_reducible refine we_lstV ?_)
  | ((with_reducible refine' we_blt ?b ?n ?m ?_); (case b => assumption); (case n => rfl); (case m => rfl))
  | ((with_reducible refine' we_typ ?b ?n ?m ?_); (case b => assumption); (case n => rfl); (case m => rfl))
  | ((with_reducible refine' we_tyName ?b ?_); (case b => assumption))
  | (with_reducible refine we_one ?_)
  | (with_reducible refine we_and ?_)
  | (with_reducible refine we_or ?_)
  | (with_reducible refine we_not ?_)
  | (with_reducible refine we_ifexp ?_)
  | ((with_reducible refine' we_un ?n ?_); (case n => exact fun z => nomatch z))
  | row_cond dcall
  | ((with_reducible refine we_bm (T := "list") PySem.F.plainAttrs_list PySem.F.slot_list_append PySem.F.type_list_append ?a ?b ?c ?d ?e ?_); (case a => rfl); (case b => rfl); (case c => rfl); (case d => rfl); (case e => rfl))
  | ((with_reducible refine we_bm0 (T := "list") PySem.F.plainAttrs_list PySem.F.slot_list_pop PySem.F.type_list_pop ?a ?b ?_); (case a => rfl); (case b => rfl))
  | ((with_reducible refine we_bm (T := "list") PySem.F.plainAttrs_list PySem.F.slot_list_extend PySem.F.type_list_extend ?a ?b ?c ?d ?e ?_); (case a => rfl); (case b => rfl); (case c => rfl); (case d => rfl); (case e => rfl)))
/- tests -/
local macro_rules | `(tactic| row_cond dT) => `(tactic| first
  | ((with_reducible refine' wt_cmp ?n ?_); (case n => rfl))
  | (with_reducible refine wt_not ?_)
  | (with_reducible refine wt_bool ?_)
  | (with_reducible refine ww_and1 ?_)
  | (with_reducible refine ww_or1 ?_)
  | (with_reducible refine ww_and ?_)
  | (with_reducible refine ww_or ?_)
  | ((with_reducible refine' wt_val ?n ?_); (case n => exact fun _ => rfl)))
/- statements -/
local macro_rules | `(tactic| row_cond dS) => `(tactic| first
  | (with_reducible refine wss_cons ?_)
  | (with_reducible refine wss_nil ?_)
  | ((with_reducible refine' ws_set ?a ?n ?h ?_); (case a => assumption); (case n => assumption); (case h => rfl))
  | ((with_reducible refine' ws_sub ?h ?_); (case h => rfl))
  | ((with_reducible refine' ws_asg ?a ?n ?h ?_); (case a => rfl); (case n => rfl); (case h => rfl))
  | (with_reducible refine ws_if ?_)
  | row_cond dret
  | ((with_reducible refine' ws_expr ?h ?_); (case h => rfl))
  | (with_reducible refine ws_pass ?_)
  | (with_reducible refine ws_break ?_)
  | (with_reducible refine ws_continue ?_)
  | (with_reducible refine ws_retN ?_))
local macro_rules | `(tactic| row_cond dSn) => `(tactic| first
  | (with_reducible refine wss_cons ?_)
  | (with_reducible refine wss_nil ?_)
  | ((with_reducible refine' ws_set ?a ?n ?h ?_); (case a => assumption); (case n => assumption); (case h => rfl))
  | ((with_reducible refine' ws_sub ?h ?_); (case h => rfl))
  | ((with_reducible refine' ws_asg ?a ?n ?h ?_); (case a => rfl); (case n => rfl); (case h => rfl))
  | row_cond dret
  | ((with_reducible refine' ws_expr ?h ?_); (case h => rfl))
  | (with_reducible refine ws_pass ?_)
  | (with_reducible refine ws_break ?_)
  | (with_reducible refine ws_continue ?_)
  | (with_reducible refine ws_retN ?_))
/- arguments, targets, values -/
local macro_rules | `(tactic| row_cond dV) => `(tactic| first
  | (with_reducible refine wa_nil ?_)
  | ((with_reducible refine' wa_cons ?n ?_); (case n => rfl))
  | (with_reducible refine wav_nil ?_)
  | ((with_reducible refine' wav_cons ?n ?_); (case n => rfl))
  | (with_reducible refine put_go ?_)
  | (with_reducible refine fz_lst ?_)
  | (with_reducible refine fz_tup ?_)
  | (with_reducible refine fz_id ?_)
  | (with_reducible refine own0_go ?_)
  | (with_reducible refine own1_go ?_)
  | (with_reducible refine app_go ?_)
  | (with_reducible refine mset_go ?_)
  | ((with_reducible refine' wg_name ?a ?n ?_); (case a => assumption); (case n => assumption))
  | ((with_reducible refine' wg_tup ?a ?n ?h ?_); (case a => assumption); (case n => rfl); (case h => rfl))
  | (with_reducible refine wgs_nil ?_)
  | ((with_reducible refine' wgs_cons ?n ?_); (case n => rfl))
  | (with_reducible refine wpt_none ?_)
  | (with_reducible refine wpt_some ?_)
  | ((with_reducible refine' wset_list ?n ?_); (case n => first | rfl | row_cond dix)))
/- what is walked -/
local macro_rules | `(tactic| row_cond dI) => `(tactic| first
  | ((with_reducible refine' wi_range1 ?a ?b ?c ?_); (case a => exact BltAt.gl (by assumption)); (case b => exact BltAt.mg (by assumption)); (case c => rfl))
  | ((with_reducible refine' wi_range2 ?a ?b ?c ?d ?_); (case a => exact BltAt.gl (by assumption)); (case b => exact BltAt.mg (by assumption)); (case c => rfl); (case d => rfl))
  | (with_reducible refine wi_val ?_)
  | (with_reducible refine wiv_list ?_)
  | (with_reducible refine wiv_tup ?_)
  | (with_reducible refine wiv_seq ?_)
  | ((with_reducible refine' wgc_name ?a ?n ?h ?_); (case a => assumption); (case n => assumption); (case h => decide))
  | ((with_reducible refine' wgc_tup ?a ?n ?h ?_); (case a => assumption); (case n => rfl); (case h => rfl))
  | (with_reducible refine wgcs_nil ?_)
  | ((with_reducible refine' wgcs_cons ?n ?_); (case n => rfl))
  | (with_reducible refine wts_nil ?_)
  | (with_reducible refine wts_one ?_))
/- operations by values -/
local macro_rules | `(tactic| row_cond dO) => `(tactic| first
  | (with_reducible refine wo_add ?_)
  | (with_reducible refine wo_sub ?_)
  | ((with_reducible refine' wo_mulS ?n ?_); (case n => first | exact .inr ⟨by decide, by decide⟩ | exact .inl ⟨by decide, by decide⟩ | exact .inr ⟨by omega, by omega⟩ | exact .inl ⟨by omega, by omega⟩))
  | ((with_reducible refine' wo_fdiv ?n ?m ?_); (case n => first | decide | omega); (case m => first | decide | row_cond dlog))
  | ((with_reducible refine' wo_mod ?n ?_); (case n => first | decide | omega))
  | (with_reducible refine wo_powL ?_)
  | ((with_reducible refine' wo_pow ?n ?_); (case n => exact ⟨by decide, by decide, by decide⟩))
  | (with_reducible refine wo_xor ?_)
  | (with_reducible refine wo_lt ?_)
  | (with_reducible refine wo_le ?_)
  | (with_reducible refine wo_gt ?_)
  | (with_reducible refine wo_ge ?_)
  | (with_reducible refine wo_eqI ?_)
  | (with_reducible refine wo_neI ?_)
  | (with_reducible refine wo_eqS ?_)
  | (with_reducible refine wo_neS ?_)
  | (with_reducible refine wo_isN ?_)
  | (with_reducible refine wo_isnotN ?_)
  | (with_reducible refine wu_neg ?_)
  | (with_reducible refine wc_int ?_)
  | (with_reducible refine wc_intB ?_)
  | (with_reducible refine wc_abs ?_)
  | ((with_reducible refine' wc_max2 ?a ?_); (case a => assumption))
  | ((with_reducible refine' wc_min2 ?a ?_); (case a => assumption))
  | (with_reducible refine wc_list ?_)
  | (with_reducible refine wc_tuple ?_)
  | ((with_reducible refine' wc_lenS ?a ?_); (case a => row_cond dsz))
  | (with_reducible refine wc_lenM ?_)
  | (with_reducible refine wc_len ?_)
  | (with_reducible refine wc_isK ?_)
  | ((with_reducible refine' wc_allM ?a ?_); (case a => assumption))
  | ((with_reducible refine' wc_anyM ?a ?_); (case a => assumption))
  | ((with_reducible refine' wc_sum ?a ?_); (case a => assumption))
  | ((with_reducible refine' wx_list ?n ?_); (case n => row_cond dat))
  | ((with_reducible refine' wx_map ?a ?b ?_); (case a => omega); (case b => omega))
  | ((with_reducible refine' wx_seq ?a ?b ?_); (case a => omega); (case b => omega))
  | ((with_reducible refine' wx_tup ?n ?_); (case n => row_cond dat))
  | (with_reducible refine wsl_listM ?_)
  | (with_reducible refine wsl_list ?_)
  | (with_reducible refine wrev_goM ?_)
  | (with_reducible refine wrev_go ?_)
  | ((with_reducible refine' wo_catM ?n ?_); (case n => row_cond dsz))
  | ((with_reducible refine' wo_cat ?n ?_); (case n => row_cond dsz))
  | ((with_reducible refine' wm_append ?n ?_); (case n => row_cond dsz)))
local macro_rules | `(tactic| row_cond dat) => `(tactic| rfl)
local macro_rules | `(tactic| row_cond dix) => `(tactic| rfl)
local macro_rules | `(tactic| row_cond dlog) => `(tactic| first | decide | exact log_small (by omega) (by omega))
/- what stands between -/
local macro_rules | `(tactic| row_cond dQ) => `(tactic| first
  | (with_reducible refine ⟨_, rfl, ?_⟩)
  | (with_reducible refine br_true ?_)
  | (with_reducible refine br_false ?_)
  | (with_reducible refine rb_true ?_)
  | (with_reducible refine rb_false ?_)
  | ((with_reducible refine' br_dec ?_ ?_) <;> intro _)
  | ((with_reducible refine' br_ndec ?_ ?_) <;> intro _)
  | ((with_reducible refine' rb_dec ?_ ?_) <;> intro _)
  | ((with_reducible refine' rb_ndec ?_ ?_) <;> intro _)
  | (refine br_is rfl ?_)
  | (refine br_isnot rfl ?_)
  | (refine rb_is rfl ?_)
  | (refine rb_isnot rfl ?_)
  | ((with_reducible refine' ⟨⟨?a, ?b⟩, ?_⟩); (case a => omega); (case b => omega))
  | ((with_reducible refine' ⟨⟨?a, ?b, ?c, ?d⟩, ?_⟩); (case a => omega); (case b => omega); (case c => omega); (case d => omega))
  | (with_reducible refine app_go ?_)
  | (with_reducible refine ⟨tym_list, ?_⟩)
  | (with_reducible refine ⟨tym_str, ?_⟩)
  | ((with_reducible refine ⟨?n, ?_⟩); (case n => (show _ ≤ PySem.sizeLine); row_cond dsz))
  | (with_reducible intro _))
local macro_rules | `(tactic| row_cond dstart) => `(tactic| simp only [startD, List.map_cons, List.map_nil, List.length_cons, List.length_nil, List.cons_append, List.nil_append, Nat.zero_add, Nat.reduceAdd, Nat.reduceSub, List.replicate_succ, List.replicate_zero])
local macro_rules | `(tactic| row_cond d) => `(tactic| first | row_cond dE | row_cond dV | row_cond dO | row_cond dT | row_cond dS | row_cond dI | row_cond dmore | row_cond dspec | row_cond dQ)
local macro_rules | `(tactic| row_cond dn) => `(tactic| first | row_cond dE | row_cond dV | row_cond dO | row_cond dT | row_cond dSn | row_cond dI | row_cond dmore | row_cond dspec | row_cond dQ)
local macro_rules | `(tactic| row_cond gon) => `(tactic| repeat' (row_cond dn))
local macro_rules | `(tactic| row_cond go) => `(tactic| repeat' (row_cond d))
/- the later parts of the layer -/
local macro_rules | `(tactic| row_cond dE) => `(tactic| first
  | ((with_reducible refine' we_sortedSet ?a ?b ?c ?d ?e ?_); (case a => assumption); (case b => assumption); (case c => assumption); (case d => rfl); (case e => rfl))
  | ((with_reducible refine' we_get2 ?a ?b ?_); (case a => assumption); (case b => exact ⟨rfl, rfl, rfl, rfl⟩))
  | ((with_reducible refine' we_get1 ?a ?b ?_); (case a => assumption); (case b => exact ⟨rfl, rfl, rfl, rfl⟩))
  | ((with_reducible refine' we_pop1 ?b ?_); (case b => exact ⟨rfl, rfl, rfl, rfl⟩)))
local macro_rules | `(tactic| row_cond dO) => `(tactic| first
  | ((with_reducible refine' wc_sorted ?a ?b ?c ?_); (case a => assumption); (case b => decide); (case c => first | exact fun _ _ => trivial | assumption))
  | ((with_reducible refine' wsorted_go ?a ?_); (case a => first | assumption | omega))
  | ((with_reducible refine' wo_inD ?a ?b ?_); (case a => assumption); (case b => decide))
  | ((with_reducible refine' wo_ninD ?a ?b ?_); (case a => assumption); (case b => decide))
  | (with_reducible refine getD_K ?_)
  | (with_reducible refine getD_T ?_)
  | ((with_reducible refine' wsl_txt ?a ?_); (case a => row_cond dsz))
  | ((with_reducible refine' wx_strN ?a ?b ?c ?_); (case a => row_cond dsz); (case b => omega); (case c => first | omega | (simp only [PySem.Str.length]; omega)))
  | (with_reducible refine ⟨isDD_K, ?_⟩)
  | (with_reducible refine ⟨isDD_T, ?_⟩))
local macro_rules | `(tactic| row_cond dO) => `(tactic| first
  | ((with_reducible refine' wm_appendM ?n ?_); (case n => row_cond dsz)))
local macro_rules | `(tactic| row_cond dE) => `(tactic| ((with_reducible refine' we_con ?c ?_); (case c => assumption)))
local macro_rules | `(tactic| row_cond dV) => `(tactic| first
  | (with_reducible refine wk_nil ?_)
  | (with_reducible refine wk_cons ?_)
  | (with_reducible refine ⟨rfl, rfl, ?_⟩))
local macro_rules | `(tactic| row_cond dI) => `(tactic| ((with_reducible refine' wi_range3 ?a ?b ?c ?d ?_); (case a => exact BltAt.gl (by assumption)); (case b => exact BltAt.mg (by assumption)); (case c => rfl); (case d => rfl)))
local macro_rules | `(tactic| row_cond dO) => `(tactic| first
  | ((with_reducible refine' wc_lenS ?a ?_); (case a => row_cond dsz)))
local macro_rules | `(tactic| row_cond dO) => `(tactic| first
  | ((with_reducible refine' wo_addS ?a ?_); (case a => row_cond dsz)))
local macro_rules | `(tactic| row_cond dO) => `(tactic| first
  | ((with_reducible refine' wo_addS2 ?a ?_); (case a => first | decide | omega))
  | ((with_reducible refine' wsl_txt2 ?a ?_); (case a => first | decide | omega))
  | ((with_reducible refine' wc_lenS2 ?a ?_); (case a => first | decide | omega)))
local macro_rules | `(tactic| row_cond dE) => `(tactic| first
  | ((with_reducible refine we_bm (T := "str") PySem.F.plainAttrs_str PySem.F.slot_str_index PySem.F.type_str_index ?a ?b ?c ?d ?e ?_); (case a => rfl); (case b => rfl); (case c => rfl); (case d => rfl); (case e => rfl))
  | ((with_reducible refine we_bm (T := "str") PySem.F.plainAttrs_str PySem.F.slot_str_join PySem.F.type_str_join ?a ?b ?c ?d ?e ?_); (case a => rfl); (case b => rfl); (case c => rfl); (case d => rfl); (case e => rfl))
  | ((with_reducible refine we_bm (T := "str") PySem.F.plainAttrs_str PySem.F.slot_str_startswith PySem.F.type_str_startswith ?a ?b ?c ?d ?e ?_); (case a => rfl); (case b => rfl); (case c => rfl); (case d => rfl); (case e => rfl)))
local macro_rules | `(tactic| row_cond dO) => `(tactic| first
  | (with_reducible refine wm_starts ?_))
local macro_rules | `(tactic| row_cond dret) => `(tactic| (with_reducible refine ws_ret ?_))
local macro_rules | `(tactic| row_cond dO) => `(tactic| first
  | ((with_reducible refine' wx_asK ?a ?b ?_); (case a => assumption); (case b => assumption))
  | ((with_reducible refine' wo_inAsK ?a ?_); (case a => assumption))
  | ((with_reducible refine' wo_ninAsK ?a ?_); (case a => assumption))
  | ((with_reducible refine' wset_asK ?a ?b ?_); (case a => assumption); (case b => row_cond dsz))
  | (with_reducible refine getD_asK ?_)
  | ((with_reducible refine' popD_asK ?b ?_); (case b => assumption))
  | ((with_reducible refine' wx_asT ?a ?b ?_); (case a => assumption); (case b => assumption))
  | ((with_reducible refine' wo_inAsT ?a ?_); (case a => assumption))
  | ((with_reducible refine' wo_ninAsT ?a ?_); (case a => assumption))
  | ((with_reducible refine' wset_asT ?a ?b ?_); (case a => assumption); (case b => row_cond dsz))
  | (with_reducible refine getD_asT ?_)
  | ((with_reducible refine' wc_sortedAs ?a ?_); (case a => assumption)))
local macro_rules | `(tactic| row_cond dO) => `(tactic| first
  | (with_reducible refine wc_lenAsK ?_)
  | (with_reducible refine wc_lenAsT ?_))
local macro_rules | `(tactic| row_cond dI) => `(tactic| first
  | (with_reducible refine wiv_asK ?_))
local macro_rules | `(tactic| row_cond dV) => `(tactic| (with_reducible refine star_go ?_))
local macro_rules | `(tactic| row_cond dO) => `(tactic| first
  | ((with_reducible refine' wc_sortedAsT ?a ?b ?_); (case a => assumption); (case b => assumption))
  | ((with_reducible refine' wm_insert ?a ?b ?c ?_); (case a => row_cond dsz); (case b => omega); (case c => omega)))
local macro_rules | `(tactic| row_cond dE) => `(tactic| first
  | ((with_reducible refine we_bm (T := "list") PySem.F.plainAttrs_list PySem.F.slot_list_insert PySem.F.type_list_insert ?a ?b ?c ?d ?e ?_); (case a => rfl); (case b => rfl); (case c => rfl); (case d => rfl); (case e => rfl)))

local macro_rules | `(tactic| row_cond dspec) => `(tactic| first
  | ((with_reducible refine' sp_law_next_go ?a ?b ?c ?_); (case a => assumption); (case b => first | decide | omega | (split <;> omega)); (case c => first | decide | omega | (split <;> omega)))
  | (with_reducible refine sp_law_mix_go ?_))
local macro_rules | `(tactic| row_cond dmore) => `(tactic| first
  | (with_reducible refine ⟨_, [], rfl, ?_⟩))

/-! ### lots asked -/
abbrev encL (l : List Str) : D := .lst (l.map D.str)
instance EncAs.encL {l : List Str} : EncAs encL (.lst (l.map D.str)) l := ⟨rfl⟩
def sp_law_lots : SpD := fun ds M R Q => ∃ (p : Addr) (st : D) (xs : List Str) (n : Int), ds = [.ref p, .lst (xs.map D.str), .int n] ∧ M = [(p, st)] ∧ DrawSt st ∧ xs.length ≤ 400 ∧ ∀ (Ls : List (List Str)) (st' : D), Ls.length ≤ 1000 → (∀ l ∈ Ls, l.length ≤ 400 ∧ ∀ n ∈ l, n ∈ xs) → DrawSt st' → Q (.lst (Ls.map encL)) [(p, st')]
def LsOk (xs : List Str) (m : Nat) (Ls : List (List Str)) : Prop := ∀ l ∈ Ls, l.length ≤ m ∧ ∀ n ∈ l, n ∈ xs
local macro_rules | `(tactic| row_cond dret) => `(tactic| (with_reducible refine ws_retV ?_))
theorem cal_law_lots {P : Program} {w : World} {K : PySem.W.Frag} {mg : Str → Option Value} {base : Heap} (T : Tx mg) (Da : DefAt K mg "_law_lots" s_law_lots) (c_law_next : Cal P w K mg base 2 "_law_next" sp_law_next) : Cal P w K mg base (3) "_law_lots" sp_law_lots := by
  refine calD (k := 2) Da sc_law_lots (fun f fd Fu => Fu.binds fun _ _ _ _ _ _ us hl => match us, hl with | [_, _, _], _ => rfl) (by row_cond dlen) (fun X F hX nm ds M R Q hS => ?_)
  have hst := hX.std
  have n_state : NameAt X 0 "state" := nm.name rfl (.inr rfl) (by decide) (by decide)
  have s_state : StoreAt X 0 "state" := nm.store rfl (.inr rfl)
  have n_left : NameAt X 1 "left" := nm.name rfl (.inl rfl) (by decide) (by decide)
  have s_left : StoreAt X 1 "left" := nm.store rfl (.inl rfl)
  have n_rows : NameAt X 2 "rows" := nm.name rfl (.inl rfl) (by decide) (by decide)
  have s_rows : StoreAt X 2 "rows" := nm.store rfl (.inl rfl)
  have n_lots : NameAt X 3 "lots" := nm.name rfl (.inl rfl) (by decide) (by decide)
  have s_lots : StoreAt X 3 "lots" := nm.store rfl (.inl rfl)
  have n_name : NameAt X 4 "name" := nm.name rfl (.inr rfl) (by decide) (by decide)
  have s_name : StoreAt X 4 "name" := nm.store rfl (.inr rfl)
  have n_k : NameAt X 5 "k" := nm.name rfl (.inl rfl) (by decide) (by decide)
  have s_k : StoreAt X 5 "k" := nm.store rfl (.inl rfl)
  have b_len : BltAt X "len" (.builtin "len") := nm.blt hX rfl T.z_len bo_len (by decide) (by decide)
  have b_range : BltAt X "range" (.type "range") := nm.blt hX rfl T.z_range bo_range (by decide) (by decide)
  have b_list : BltAt X "list" (.type "list") := nm.blt hX rfl T.z_list bo_list (by decide) (by decide)
  have m_range : X.mg "range" = none := by rw [hX.mg]; exact T.z_range
  obtain ⟨p, st, xs, n, rfl, rfl, hs, hx, hq⟩ := hS
  row_cond dstart
  refine wss_cons ?_
  refine ws_mid (fun Γ => ∃ q, Γ = ⟨[some (.ref p), some (.lst (xs.map D.str)), some (.int n), some (.ref q), none, none, none], [(q, .lst ((([[]] : List (List Str))).map encL)), (p, st)], R⟩) ?_ ?_
  · row_cond go
    exact ⟨_, rfl⟩
  rintro Γ ⟨q, rfl⟩
  refine wss_cons ?_
  refine ws_mid (fun Γ => ∃ (st : D) (q : Addr) (Ls : List (List Str)) (a b : Option D), Γ = ⟨[some (.ref p), some (.lst (xs.map D.str)), some (.int n), some (.ref q), a, b, none], [(q, .lst (Ls.map encL)), (p, st)], R⟩ ∧ DrawSt st ∧ Ls.length ≤ 500 ∧ LsOk xs 400 Ls) ?_ ?_
  · row_cond go
    · rename_i hlt
      refine ws_forW hst (fun _ => rfl) ?_
      row_cond go
      refine ⟨fun i Γ => ∃ (q : Addr) (Ls : List (List Str)) (a b : Option D), Γ = ⟨[some (.ref p), some (.lst (xs.map D.str)), some (.int n), some (.ref q), a, b, none], [(q, .lst (Ls.map encL)), (p, st)], R⟩ ∧ Ls.length = 2 ^ i ∧ LsOk xs i Ls, ⟨_, [[]], _, _, rfl, rfl, fun l hl => by rw [List.mem_singleton.mp hl]; exact ⟨Nat.le_refl _, fun n h => by cases h⟩⟩, ?_, fun i x Γ hx' hW => ?_, fun Γ hW => ?_⟩
      · rintro i Γ ⟨q, Ls, a, b, rfl, _⟩
        exact (inferInstance : SeeL _ _ _ _).see
      · obtain ⟨q, Ls, a, b, rfl, hl, hok⟩ := hW
        rw [List.getElem?_map] at hx'
        obtain ⟨y, hy, rfl⟩ := Option.map_eq_some_iff.mp hx'
        have hi := (List.getElem?_eq_some_iff.mp hy).1
        have hpow : 2 ^ i ≤ 2 ^ 5 := Nat.pow_le_pow_right (by decide) (by omega)
        have hl32 : Ls.length ≤ 32 := by rw [hl]; exact hpow
        row_cond go
        refine we_lc' hst (own := [("lot", 6)]) (nm.blk (by decide +kernel)) (fun _ => rfl) rfl ?_
        row_cond go
        refine lc_mapG encL (fun l => l ++ [y]) hX (by rw [nm.N]; rfl) (.inl rfl) (fun _ _ => (inferInstance : SeeL _ _ _ _).see) (by omega) (fun c j l acc hl' => put_go fun X' hb => ?_) (fun c => ?_)
        ·
          have hll := (hok l (List.mem_of_getElem? hl')).1
          have hX_X' := hb.inn hX
          have hst_X' := hX_X'.std
          have n_lot_X' : NameAt X' 6 "lot" := hb.name (by rw [nm.N]; rfl) (by first | exact .inl rfl | exact .inr (.inl rfl) | exact .inr (.inr rfl)) (by decide) (by decide)
          have s_lot_X' : StoreAt X' 6 "lot" := hb.store (by rw [nm.N]; rfl) (by first | exact .inl rfl | exact .inr rfl)
          have n_name_X' : NameAt X' 4 "name" := hb.name (by rw [nm.N]; rfl) (by first | exact .inl rfl | exact .inr (.inl rfl) | exact .inr (.inr rfl)) (by decide) (by decide)
          refine we_wk ?_
          row_cond go
          rename_i pt pn
          show ∃ Γ', Wk ⟨_, (pn, .lst (l.map D.str ++ [.str y])) :: (pt, .lst [.str y]) :: [(c, .lst acc), (q, .lst (Ls.map encL)), (p, st)], R⟩ Γ' ∧ _
          refine ⟨⟨[some (.ref p), some (.lst (xs.map D.str)), some (.int n), some (.ref q), some (.str y), b, some (encL l)], [(pn, .lst (l.map D.str ++ [.str y])), (c, .lst acc), (q, .lst (Ls.map encL)), (p, st)], R⟩, wk_sub (.cons₂ _ (.cons _ (.refl _))), ?_⟩
          refine fz_lst ⟨?_, _, rfl⟩
          show D.lst _ = D.lst _
          rw [List.map_append]; rfl
        · row_cond go
          refine ⟨_, wk_sub (.cons₂ _ (.cons _ (.cons _ (.refl _)))), _, _, _, _, rfl, ?_, ?_⟩
          · rw [List.length_append, List.length_map, hl, Nat.pow_succ]; omega
          · intro l hl'
            rcases List.mem_append.mp hl' with h | h
            · exact ⟨by have := (hok l h).1; omega, (hok l h).2⟩
            · obtain ⟨l0, h0, rfl⟩ := List.mem_map.mp h
              refine ⟨by rw [List.length_append]; have := (hok l0 h0).1; simp; omega, fun m hm => ?_⟩
              rcases List.mem_append.mp hm with h2 | h2
              · exact (hok l0 h0).2 m h2
              · rw [List.mem_singleton.mp h2]; exact List.mem_of_getElem? hy
      · obtain ⟨q, Ls, a, b, rfl, hl, hok⟩ := hW
        have hpow : 2 ^ (xs.map D.str).length ≤ 2 ^ 5 := Nat.pow_le_pow_right (by decide) (by rw [List.length_map]; omega)
        rw [List.length_map] at hl hpow hok
        exact wss_nil ⟨_, _, Ls, _, _, rfl, hs, by omega, fun l h => ⟨Nat.le_trans (hok l h).1 (by omega), (hok l h).2⟩⟩
    · refine ws_forW hst (fun _ => rfl) ?_
      row_cond go
      refine ⟨fun i Γ => ∃ (st : D) (Ls : List (List Str)) (a b : Option D), Γ = ⟨[some (.ref p), some (.lst (xs.map D.str)), some (.int n), some (.ref q), a, b, none], [(q, .lst (Ls.map encL)), (p, st)], R⟩ ∧ DrawSt st ∧ Ls.length ≤ i + 1 ∧ LsOk xs 400 Ls, ⟨_, [[]], _, _, rfl, hs, by simp, fun l hl => by rw [List.mem_singleton.mp hl]; exact ⟨Nat.zero_le _, fun n h => by cases h⟩⟩, fun _ _ _ => trivial, fun i x Γ hx' hW => ?_, fun Γ hW => ?_⟩
      · obtain ⟨st, Ls, a, b, rfl, hs, hl, hok⟩ := hW
        obtain ⟨hi, rfl⟩ := rngD_at hx'
        row_cond go
        refine we_lc' hst (own := [("name", 4)]) (nm.blk (by decide +kernel)) (fun _ => rfl) rfl ?_
        row_cond go
        refine lc_name1 hX (by rw [nm.N]; rfl) (by first | exact .inl rfl | exact .inr rfl) (fun i acc M' => ∃ (ys : List Str) (st : D), acc = ys.map D.str ∧ M' = [(q, .lst (Ls.map encL)), (p, st)] ∧ ys.Sublist (xs.take i) ∧ DrawSt st) ⟨[], _, rfl, rfl, .slnil, hs⟩ (fun c j acc M' h => ?_) (fun c i x acc M' hx hW => ?_) (fun c acc M' hW => ?_)
        · obtain ⟨ys, st, rfl, rfl, _, _⟩ := h
          exact (inferInstance : SeeL _ _ _ _).see
        · obtain ⟨ys, st, rfl, rfl, hsub, hs⟩ := hW
          rw [List.getElem?_map] at hx
          obtain ⟨y, hy, rfl⟩ := Option.map_eq_some_iff.mp hx
          have hyl := hsub.length_le
          rw [List.length_take] at hyl
          have e : xs.take (i + 1) = xs.take i ++ [y] := by rw [List.take_add_one, hy]; rfl
          refine put_go (fun X' hb => ?_)
          have hX_X' := hb.inn hX
          have hst_X' := hX_X'.std
          have n_name_X' : NameAt X' 4 "name" := hb.name (by rw [nm.N]; rfl) (by first | exact .inl rfl | exact .inr (.inl rfl) | exact .inr (.inr rfl)) (by decide) (by decide)
          have s_name_X' : StoreAt X' 4 "name" := hb.store (by rw [nm.N]; rfl) (by first | exact .inl rfl | exact .inr rfl)
          have g_law_next_X' : Gl X' "_law_next" := hb.gl rfl
          have n_state_X' : NameAt X' 0 "state" := hb.name (by rw [nm.N]; rfl) (by first | exact .inl rfl | exact .inr (.inl rfl) | exact .inr (.inr rfl)) (by decide) (by decide)
          row_cond go
          · rename_i r s2 hr hr' hs2 hz X2 hb2
            have hX_X2 := hb2.inn hX
            have hst_X2 := hX_X2.std
            have n_name_X2 : NameAt X2 4 "name" := hb2.name (by rw [nm.N]; rfl) (by first | exact .inl rfl | exact .inr (.inl rfl) | exact .inr (.inr rfl)) (by decide) (by decide)
            have s_name_X2 : StoreAt X2 4 "name" := hb2.store (by rw [nm.N]; rfl) (by first | exact .inl rfl | exact .inr rfl)
            have g_law_next_X2 : Gl X2 "_law_next" := hb2.gl rfl
            have n_state_X2 : NameAt X2 0 "state" := hb2.name (by rw [nm.N]; rfl) (by first | exact .inl rfl | exact .inr (.inl rfl) | exact .inr (.inr rfl)) (by decide) (by decide)
            row_cond go
            refine lcend_id (by rw [List.length_map]; show _ < 16777216; omega) ⟨ys ++ [y], _, by rw [List.map_append]; rfl, rfl, ?_, hs2⟩
            rw [e]; exact hsub.append (.refl _)
          · rename_i r s2 hr hr' hs2 hz
            refine ⟨_, _, rfl, ys, _, rfl, rfl, ?_, hs2⟩
            rw [e]; exact hsub.trans (List.sublist_append_left _ _)
        obtain ⟨ys, st, rfl, rfl, hsub, hs⟩ := hW
        rw [List.length_map, List.take_length] at hsub
        have hyl := hsub.length_le
        row_cond go
        refine ⟨_, .refl _, _, _, _, _, rfl, hs, by rw [List.length_append]; simp; omega, fun l hl' => ?_⟩
        rcases List.mem_append.mp hl' with h | h
        · exact hok l h
        · rw [List.mem_singleton.mp h]; exact ⟨by omega, fun n hn => hsub.subset hn⟩
      · obtain ⟨st, Ls, a, b, rfl, hs, hl, hok⟩ := hW
        rw [rngD_len] at hl
        exact wss_nil ⟨_, _, Ls, _, _, rfl, hs, by omega, hok⟩
  clear hs
  rintro Γ ⟨st, q, Ls, a, b, rfl, hs, hl, hok⟩
  row_cond gon
  refine ws_mid (fun Γ => ∃ (q : Addr) (Ls : List (List Str)) (a b : Option D), Γ = ⟨[some (.ref p), some (.lst (xs.map D.str)), some (.int n), some (.ref q), a, b, none], [(q, .lst (Ls.map encL)), (p, st)], R⟩ ∧ Ls.length ≤ 600 ∧ LsOk xs 400 Ls) ?_ ?_
  · refine ws_wk ?_
    have hok2 : LsOk xs 400 (Ls ++ [xs]) := fun l hl' => by
      rcases List.mem_append.mp hl' with h | h
      · exact hok l h
      · rw [List.mem_singleton.mp h]; exact ⟨hx, fun n hn => hn⟩
    row_cond go
    · refine ⟨_, wk_sub (.cons₂ _ (.cons _ (.refl _))), _, _, _, _, rfl, ?_, fun l hl' => hok2 l (List.mem_of_mem_drop (List.mem_of_mem_take hl'))⟩
      unfold DL.cutD
      rw [List.length_take, List.length_drop, List.length_append]; simp; omega
    · exact ⟨_, .refl _, _, _, _, _, rfl, by rw [List.length_append]; simp; omega, hok2⟩
  rintro Γ ⟨q, Ls, a, b, rfl, hl, hok⟩
  row_cond go
  exact rt1 (hq _ _ (by omega) hok hs)

end K50


namespace K50
open PySem PySem.Spec PyProof.Rows L2 DL
local macro_rules | `(tactic| row_cond dcall) => `(tactic| first
  | ((with_reducible refine' we_callS (x := "make_lot") ?c ?x ?j ?g ?d ?e ?_); (case c => assumption); (case x => assumption); (case j => first | decide | exact Nat.le_refl _ | omega); (case g => assumption); (case d => decide); (case e => rfl))
  | ((with_reducible refine' we_call (x := "make_ledger") ?c ?x ?j ?g ?d ?e ?p ?_); (case c => assumption); (case x => assumption); (case j => first | decide | exact Nat.le_refl _ | omega); (case g => assumption); (case d => decide); (case e => rfl); (case p => rfl))
  | ((with_reducible refine' we_call (x := "freed") ?c ?x ?j ?g ?d ?e ?p ?_); (case c => assumption); (case x => assumption); (case j => first | decide | exact Nat.le_refl _ | omega); (case g => assumption); (case d => decide); (case e => rfl); (case p => rfl))
  | ((with_reducible refine' we_call (x := "reduced") ?c ?x ?j ?g ?d ?e ?p ?_); (case c => assumption); (case x => assumption); (case j => first | decide | exact Nat.le_refl _ | omega); (case g => assumption); (case d => decide); (case e => rfl); (case p => rfl))
  | ((with_reducible refine' we_call (x := "_law_mix") ?c ?x ?j ?g ?d ?e ?p ?_); (case c => assumption); (case x => assumption); (case j => first | decide | exact Nat.le_refl _ | omega); (case g => assumption); (case d => decide); (case e => rfl); (case p => rfl))
  | ((with_reducible refine' we_call (x := "_law_start") ?c ?x ?j ?g ?d ?e ?p ?_); (case c => assumption); (case x => assumption); (case j => first | decide | exact Nat.le_refl _ | omega); (case g => assumption); (case d => decide); (case e => rfl); (case p => rfl))
  | ((with_reducible refine' we_call1 (x := "_law_next") ?c ?x ?j ?g ?d ?e ?p ?_); (case c => assumption); (case x => assumption); (case j => first | decide | exact Nat.le_refl _ | omega); (case g => assumption); (case d => decide); (case e => rfl); (case p => rfl))
  | ((with_reducible refine' we_call (x := "_law_is") ?c ?x ?j ?g ?d ?e ?p ?_); (case c => assumption); (case x => assumption); (case j => first | decide | exact Nat.le_refl _ | omega); (case g => assumption); (case d => decide); (case e => rfl); (case p => rfl))
  | ((with_reducible refine' we_call1 (x := "_law_names") ?c ?x ?j ?g ?d ?e ?p ?_); (case c => assumption); (case x => assumption); (case j => first | decide | exact Nat.le_refl _ | omega); (case g => assumption); (case d => decide); (case e => rfl); (case p => rfl))
  | ((with_reducible refine' we_call1 (x := "_law_lot") ?c ?x ?j ?g ?d ?e ?p ?_); (case c => assumption); (case x => assumption); (case j => first | decide | exact Nat.le_refl _ | omega); (case g => assumption); (case d => decide); (case e => rfl); (case p => rfl))
  | ((with_reducible refine' we_call1 (x := "_law_ledger") ?c ?x ?j ?g ?d ?e ?p ?_); (case c => assumption); (case x => assumption); (case j => first | decide | exact Nat.le_refl _ | omega); (case g => assumption); (case d => decide); (case e => rfl); (case p => rfl))
  | ((with_reducible refine' we_call1 (x := "_law_turned") ?c ?x ?j ?g ?d ?e ?p ?_); (case c => assumption); (case x => assumption); (case j => first | decide | exact Nat.le_refl _ | omega); (case g => assumption); (case d => decide); (case e => rfl); (case p => rfl))
  | ((with_reducible refine' we_call (x := "_law_reduced") ?c ?x ?j ?g ?d ?e ?p ?_); (case c => assumption); (case x => assumption); (case j => first | decide | exact Nat.le_refl _ | omega); (case g => assumption); (case d => decide); (case e => rfl); (case p => rfl))
  | ((with_reducible refine' we_call (x := "_law_freed") ?c ?x ?j ?g ?d ?e ?p ?_); (case c => assumption); (case x => assumption); (case j => first | decide | exact Nat.le_refl _ | omega); (case g => assumption); (case d => decide); (case e => rfl); (case p => rfl))
  | ((with_reducible refine' we_call1 (x := "_law_lots") ?c ?x ?j ?g ?d ?e ?p ?_); (case c => assumption); (case x => assumption); (case j => first | decide | exact Nat.le_refl _ | omega); (case g => assumption); (case d => decide); (case e => rfl); (case p => rfl))
  | ((with_reducible refine' we_call (x := "law") ?c ?x ?j ?g ?d ?e ?p ?_); (case c => assumption); (case x => assumption); (case j => first | decide | exact Nat.le_refl _ | omega); (case g => assumption); (case d => decide); (case e => rfl); (case p => rfl)))
/-! the steps: one line a construct -/
local macro_rules | `(tactic| row_cond dlen) => `(tactic| (intro ds M R Q h; first | (obtain ⟨h1, _⟩ := h; subst h1; rfl) | (obtain ⟨_, h1, _⟩ := h; subst h1; rfl) | (obtain ⟨_, _, h1, _⟩ := h; subst h1; rfl) | (obtain ⟨_, _, _, h1, _⟩ := h; subst h1; rfl) | (obtain ⟨_, _, _, _, h1, _⟩ := h; subst h1; rfl) | (obtain ⟨_, _, _, _, _, h1, _⟩ := h; subst h1; rfl) | (obtain ⟨_, _, _, _, _, _, h1, _⟩ := h; subst h1; rfl) | (obtain ⟨_, _, _, _, _, _, _, h1, _⟩ := h; subst h1; rfl) | (obtain ⟨_, _, _, _, _, _, _, _, h1, _⟩ := h; subst h1; rfl) | (obtain ⟨_, _, _, _, _, _, _, _, _, h1, _⟩ := h; subst h1; rfl) | (obtain ⟨_, _, _, _, _, _, _, _, _, _, h1, _⟩ := h; subst h1; rfl) | (obtain ⟨_, _, _, _, _, _, _, _, _, _, _, h1, _⟩ := h; subst h1; rfl) | (obtain ⟨_, _, _, _, _, _, _, _, _, _, _, _, h1, _⟩ := h; subst h1; rfl)))
local macro_rules | `(tactic| row_cond dsz) => `(tactic| first | exact Nat.le_of_ble_eq_true rfl | assumption | (simp only [List.length_map, List.length_cons, List.length_append, List.length_nil, List.length_reverse, List.length_take, List.length_drop, PySem.sizeLine]; omega))
/- expressions -/
local macro_rules | `(tactic| row_cond dE) => `(tactic| first
  | ((with_reducible refine' we_name ?n ?e ?_); (case n => assumption); (case e => rfl))
  | (with_reducible refine we_int ?_)
  | (with_reducible refine we_bl ?_)
  | (with_reducible refine we_str ?_)
  | (with_reducible refine we_non ?_)
  | (with_reducible refine we_bin ?_)
  | ((with_reducible refine' we_cmp ?n ?_); (case n => rfl))
  | (with_reducible refine we_slice ?_)
  | (with_reducible refine we_rev ?_)
  | ((with_reducible refine' we_ix ?n ?_); (case n => exact fun _ _ => rfl))
  | (with_reducible refine we_tupV ?_)
  | (with_reducible refine we_lstV ?_)
  | ((with_reducible refine' we_blt ?b ?n ?m ?_); (case b => assumption); (case n => rfl); (case m => rfl))
  | ((with_reducible refine' we_typ ?b ?n ?m ?_); (case b => assumption); (case n => rfl); (case m => rfl))
  | ((with_reducible refine' we_tyName ?b ?_); (case b => assumption))
  | (with_reducible refine we_one ?_)
  | (with_reducible refine we_and ?_)
  | (with_reducible refine we_or ?_)
  | (with_reducible refine we_not ?_)
  | (with_reducible refine we_ifexp ?_)
  | ((with_reducible refine' we_un ?n ?_); (case n => exact fun z => nomatch z))
  | row_cond dcall
  | ((with_reducible refine we_bm (T := "list") PySem.F.plainAttrs_list PySem.F.slot_list_append PySem.F.type_list_append ?a ?b ?c ?d ?e ?_); (case a => rfl); (case b => rfl); (case c => rfl); (case d => rfl); (case e => rfl))
  | ((with_reducible refine we_bm0 (T := "list") PySem.F.plainAttrs_list PySem.F.slot_list_pop PySem.F.type_list_pop ?a ?b ?_); (case a => rfl); (case b => rfl))
  | ((with_reducible refine we_bm (T := "list") PySem.F.plainAttrs_list PySem.F.slot_list_extend PySem.F.type_list_extend ?a ?b ?c ?d ?e ?_); (case a => rfl); (case b => rfl); (case c => rfl); (case d => rfl); (case e => rfl)))
/- tests -/
local macro_rules | `(tactic| row_cond dT) => `(tactic| first
  | ((with_reducible refine' wt_cmp ?n ?_); (case n => rfl))
  | (with_reducible refine wt_not ?_)
  | (with_reducible refine wt_bool ?_)
  | (with_reducible refine ww_and1 ?_)
  | (with_reducible refine ww_or1 ?_)
  | (with_reducible refine ww_and ?_)
  | (with_reducible refine ww_or ?_)
  | ((with_reducible refine' wt_val ?n ?_); (case n => exact fun _ => rfl)))
/- statements -/
local macro_rules | `(tactic| row_cond dS) => `(tactic| first
  | (with_reducible refine wss_cons ?_)
  | (with_reducible refine wss_nil ?_)
  | ((with_reducible refine' ws_set ?a ?n ?h ?_); (case a => assumption); (case n => assumption); (case h => rfl))
  | ((with_reducible refine' ws_sub ?h ?_); (case h => rfl))
  | ((with_reducible refine' ws_asg ?a ?n ?h ?_); (case a => rfl); (case n => rfl); (case h => rfl))
  | (with_reducible refine ws_if ?_)
  | row_cond dret
  | ((with_reducible refine' ws_expr ?h ?_); (case h => rfl))
  | (with_reducible refine ws_pass ?_)
  | (with_reducible refine ws_break ?_)
  | (with_reducible refine ws_continue ?_)
  | (with_reducible refine ws_retN ?_))
local macro_rules | `(tactic| row_cond dSn) => `(tactic| first
  | (with_reducible refine wss_cons ?_)
  | (with_reducible refine wss_nil ?_)
  | ((with_reducible refine' ws_set ?a ?n ?h ?_); (case a => assumption); (case n => assumption); (case h => rfl))
  | ((with_reducible refine' ws_sub ?h ?_); (case h => rfl))
  | ((with_reducible refine' ws_asg ?a ?n ?h ?_); (case a => rfl); (case n => rfl); (case h => rfl))
  | row_cond dret
  | ((with_reducible refine' ws_expr ?h ?_); (case h => rfl))
  | (with_reducible refine ws_pass ?_)
  | (with_reducible refine ws_break ?_)
  | (with_reducible refine ws_continue ?_)
  | (with_reducible refine ws_retN ?_))
/- arguments, targets, values -/
local macro_rules | `(tactic| row_cond dV) => `(tactic| first
  | (with_reducible refine wa_nil ?_)
  | ((with_reducible refine' wa_cons ?n ?_); (case n => rfl))
  | (with_reducible refine wav_nil ?_)
  | ((with_reducible refine' wav_cons ?n ?_); (case n => rfl))
  | (with_reducible refine put_go ?_)
  | (with_reducible refine fz_lst ?_)
  | (with_reducible refine fz_tup ?_)
  | (with_reducible refine fz_id ?_)
  | (with_reducible refine own0_go ?_)
  | (with_reducible refine own1_go ?_)
  | (with_reducible refine app_go ?_)
  | (with_reducible refine mset_go ?_)
  | ((with_reducible refine' wg_name ?a ?n ?_); (case a => assumption); (case n => assumption))
  | ((with_reducible refine' wg_tup ?a ?n ?h ?_); (case a => assumption); (case n => rfl); (case h => rfl))
  | (with_reducible refine wgs_nil ?_)
  | ((with_reducible refine' wgs_cons ?n ?_); (case n => rfl))
  | (with_reducible refine wpt_none ?_)
  | (with_reducible refine wpt_some ?_)
  | ((with_reducible refine' wset_list ?n ?_); (case n => first | rfl | row_cond dix)))
/- what is walked -/
local macro_rules | `(tactic| row_cond dI) => `(tactic| first
  | ((with_reducible refine' wi_range1 ?a ?b ?c ?_); (case a => exact BltAt.gl (by assumption)); (case b => exact BltAt.mg (by assumption)); (case c => rfl))
  | ((with_reducible refine' wi_range2 ?a ?b ?c ?d ?_); (case a => exact BltAt.gl (by assumption)); (case b => exact BltAt.mg (by assumption)); (case c => rfl); (case d => rfl))
  | (with_reducible refine wi_val ?_)
  | (with_reducible refine wiv_list ?_)
  | (with_reducible refine wiv_tup ?_)
  | (with_reducible refine wiv_seq ?_)
  | ((with_reducible refine' wgc_name ?a ?n ?h ?_); (case a => assumption); (case n => assumption); (case h => decide))
  | ((with_reducible refine' wgc_tup ?a ?n ?h ?_); (case a => assumption); (case n => rfl); (case h => rfl))
  | (with_reducible refine wgcs_nil ?_)
  | ((with_reducible refine' wgcs_cons ?n ?_); (case n => rfl))
  | (with_reducible refine wts_nil ?_)
  | (with_reducible refine wts_one ?_))
/- operations by values -/
local macro_rules | `(tactic| row_cond dO) => `(tactic| first
  | (with_reducible refine wo_add ?_)
  | (with_reducible refine wo_sub ?_)
  | ((with_reducible refine' wo_mulS ?n ?_); (case n => first | exact .inr ⟨by decide, by decide⟩ | exact .inl ⟨by decide, by decide⟩ | exact .inr ⟨by omega, by omega⟩ | exact .inl ⟨by omega, by omega⟩))
  | ((with_reducible refine' wo_fdiv ?n ?m ?_); (case n => first | decide | omega); (case m => first | decide | row_cond dlog))
  | ((with_reducible refine' wo_mod ?n ?_); (case n => first | decide | omega))
  | (with_reducible refine wo_powL ?_)
  | ((with_reducible refine' wo_pow ?n ?_); (case n => exact ⟨by decide, by decide, by decide⟩))
  | (with_reducible refine wo_xor ?_)
  | (with_reducible refine wo_lt ?_)
  | (with_reducible refine wo_le ?_)
  | (with_reducible refine wo_gt ?_)
  | (with_reducible refine wo_ge ?_)
  | (with_reducible refine wo_eqI ?_)
  | (with_reducible refine wo_neI ?_)
  | (with_reducible refine wo_eqS ?_)
  | (with_reducible refine wo_neS ?_)
  | (with_reducible refine wo_isN ?_)
  | (with_reducible refine wo_isnotN ?_)
  | (with_reducible refine wu_neg ?_)
  | (with_reducible refine wc_int ?_)
  | (with_reducible refine wc_intB ?_)
  | (with_reducible refine wc_abs ?_)
  | ((with_reducible refine' wc_max2 ?a ?_); (case a => assumption))
  | ((with_reducible refine' wc_min2 ?a ?_); (case a => assumption))
  | (with_reducible refine wc_list ?_)
  | (with_reducible refine wc_tuple ?_)
  | ((with_reducible refine' wc_lenS ?a ?_); (case a => row_cond dsz))
  | (with_reducible refine wc_lenM ?_)
  | (with_reducible refine wc_len ?_)
  | (with_reducible refine wc_isK ?_)
  | ((with_reducible refine' wc_allM ?a ?_); (case a => assumption))
  | ((with_reducible refine' wc_anyM ?a ?_); (case a => assumption))
  | ((with_reducible refine' wc_sum ?a ?_); (case a => assumption))
  | ((with_reducible refine' wx_list ?n ?_); (case n => row_cond dat))
  | ((with_reducible refine' wx_map ?a ?b ?_); (case a => omega); (case b => omega))
  | ((with_reducible refine' wx_seq ?a ?b ?_); (case a => omega); (case b => omega))
  | ((with_reducible refine' wx_tup ?n ?_); (case n => row_cond dat))
  | (with_reducible refine wsl_listM ?_)
  | (with_reducible refine wsl_list ?_)
  | (with_reducible refine wrev_goM ?_)
  | (with_reducible refine wrev_go ?_)
  | ((with_reducible refine' wo_catM ?n ?_); (case n => row_cond dsz))
  | ((with_reducible refine' wo_cat ?n ?_); (case n => row_cond dsz))
  | ((with_reducible refine' wm_append ?n ?_); (case n => row_cond dsz)))
local macro_rules | `(tactic| row_cond dat) => `(tactic| rfl)
local macro_rules | `(tactic| row_cond dix) => `(tactic| rfl)
local macro_rules | `(tactic| row_cond dlog) => `(tactic| first | decide | exact log_small (by omega) (by omega))
/- what stands between -/
local macro_rules | `(tactic| row_cond dQ) => `(tactic| first
  | (with_reducible refine ⟨_, rfl, ?_⟩)
  | (with_reducible refine br_true ?_)
  | (with_reducible refine br_false ?_)
  | (with_reducible refine rb_true ?_)
  | (with_reducible refine rb_false ?_)
  | ((with_reducible refine' br_dec ?_ ?_) <;> intro _)
  | ((with_reducible refine' br_ndec ?_ ?_) <;> intro _)
  | ((with_reducible refine' rb_dec ?_ ?_) <;> intro _)
  | ((with_reducible refine' rb_ndec ?_ ?_) <;> intro _)
  | (refine br_is rfl ?_)
  | (refine br_isnot rfl ?_)
  | (refine rb_is rfl ?_)
  | (refine rb_isnot rfl ?_)
  | ((with_reducible refine' ⟨⟨?a, ?b⟩, ?_⟩); (case a => omega); (case b => omega))
  | ((with_reducible refine' ⟨⟨?a, ?b, ?c, ?d⟩, ?_⟩); (case a => omega); (case b => omega); (case c => omega); (case d => omega))
  | (with_reducible refine app_go ?_)
  | (with_reducible refine ⟨tym_list, ?_⟩)
  | (with_reducible refine ⟨tym_str, ?_⟩)
  | ((with_reducible refine ⟨?n, ?_⟩); (case n => (show _ ≤ PySem.sizeLine); row_cond dsz))
  | (with_reducible intro _))
local macro_rules | `(tactic| row_cond dstart) => `(tactic| simp only [startD, List.map_cons, List.map_nil, List.length_cons, List.length_nil, List.cons_append, List.nil_append, Nat.zero_add, Nat.reduceAdd, Nat.reduceSub, List.replicate_succ, List.replicate_zero])
local macro_rules | `(tactic| row_cond d) => `(tactic| first | row_cond dE | row_cond dV | row_cond dO | row_cond dT | row_cond dS | row_cond dI | row_cond dmore | row_cond dspec | row_cond dQ)
local macro_rules | `(tactic| row_cond dn) => `(tactic| first | row_cond dE | row_cond dV | row_cond dO | row_cond dT | row_cond dSn | row_cond dI | row_cond dmore | row_cond dspec | row_cond dQ)
local macro_rules | `(tactic| row_cond gon) => `(tactic| repeat' (row_cond dn))
local macro_rules | `(tactic| row_cond go) => `(tactic| repeat' (row_cond d))
/- the later parts of the layer -/
local macro_rules | `(tactic| row_cond dE) => `(tactic| first
  | ((with_reducible refine' we_sortedSet ?a ?b ?c ?d ?e ?_); (case a => assumption); (case b => assumption); (case c => assumption); (case d => rfl); (case e => rfl))
  | ((with_reducible refine' we_get2 ?a ?b ?_); (case a => assumption); (case b => exact ⟨rfl, rfl, rfl, rfl⟩))
  | ((with_reducible refine' we_get1 ?a ?b ?_); (case a => assumption); (case b => exact ⟨rfl, rfl, rfl, rfl⟩))
  | ((with_reducible refine' we_pop1 ?b ?_); (case b => exact ⟨rfl, rfl, rfl, rfl⟩)))
local macro_rules | `(tactic| row_cond dO) => `(tactic| first
  | ((with_reducible refine' wc_sorted ?a ?b ?c ?_); (case a => assumption); (case b => decide); (case c => first | exact fun _ _ => trivial | assumption))
  | ((with_reducible refine' wsorted_go ?a ?_); (case a => first | assumption | omega))
  | ((with_reducible refine' wo_inD ?a ?b ?_); (case a => assumption); (case b => decide))
  | ((with_reducible refine' wo_ninD ?a ?b ?_); (case a => assumption); (case b => decide))
  | (with_reducible refine getD_K ?_)
  | (with_reducible refine getD_T ?_)
  | ((with_reducible refine' wsl_txt ?a ?_); (case a => row_cond dsz))
  | ((with_reducible refine' wx_strN ?a ?b ?c ?_); (case a => row_cond dsz); (case b => omega); (case c => first | omega | (simp only [PySem.Str.length]; omega)))
  | (with_reducible refine ⟨isDD_K, ?_⟩)
  | (with_reducible refine ⟨isDD_T, ?_⟩))
local macro_rules | `(tactic| row_cond dO) => `(tactic| first
  | ((with_reducible refine' wm_appendM ?n ?_); (case n => row_cond dsz)))
local macro_rules | `(tactic| row_cond dE) => `(tactic| ((with_reducible refine' we_con ?c ?_); (case c => assumption)))
local macro_rules | `(tactic| row_cond dV) => `(tactic| first
  | (with_reducible refine wk_nil ?_)
  | (with_reducible refine wk_cons ?_)
  | (with_reducible refine ⟨rfl, rfl, ?_⟩))
local macro_rules | `(tactic| row_cond dI) => `(tactic| ((with_reducible refine' wi_range3 ?a ?b ?c ?d ?_); (case a => exact BltAt.gl (by assumption)); (case b => exact BltAt.mg (by assumption)); (case c => rfl); (case d => rfl)))
local macro_rules | `(tactic| row_cond dO) => `(tactic| first
  | ((with_reducible refine' wc_lenS ?a ?_); (case a => row_cond dsz)))
local macro_rules | `(tactic| row_cond dO) => `(tactic| first
  | ((with_reducible refine' wo_addS ?a ?_); (case a => row_cond dsz)))
local macro_rules | `(tactic| row_cond dO) => `(tactic| first
  | ((with_reducible refine' wo_addS2 ?a ?_); (case a => first | decide | omega))
  | ((with_reducible refine' wsl_txt2 ?a ?_); (case a => first | decide | omega))
  | ((with_reducible refine' wc_lenS2 ?a ?_); (case a => first | decide | omega)))
local macro_rules | `(tactic| row_cond dE) => `(tactic| first
  | ((with_reducible refine we_bm (T := "str") PySem.F.plainAttrs_str PySem.F.slot_str_index PySem.F.type_str_index ?a ?b ?c ?d ?e ?_); (case a => rfl); (case b => rfl); (case c => rfl); (case d => rfl); (case e => rfl))
  | ((with_reducible refine we_bm (T := "str") PySem.F.plainAttrs_str PySem.F.slot_str_join PySem.F.type_str_join ?a ?b ?c ?d ?e ?_); (case a => rfl); (case b => rfl); (case c => rfl); (case d => rfl); (case e => rfl))
  | ((with_reducible refine we_bm (T := "str") PySem.F.plainAttrs_str PySem.F.slot_str_startswith PySem.F.type_str_startswith ?a ?b ?c ?d ?e ?_); (case a => rfl); (case b => rfl); (case c => rfl); (case d => rfl); (case e => rfl)))
local macro_rules | `(tactic| row_cond dO) => `(tactic| first
  | (with_reducible refine wm_starts ?_))
local macro_rules | `(tactic| row_cond dret) => `(tactic| (with_reducible refine ws_ret ?_))
local macro_rules | `(tactic| row_cond dO) => `(tactic| first
  | ((with_reducible refine' wx_asK ?a ?b ?_); (case a => assumption); (case b => assumption))
  | ((with_reducible refine' wo_inAsK ?a ?_); (case a => assumption))
  | ((with_reducible refine' wo_ninAsK ?a ?_); (case a => assumption))
  | ((with_reducible refine' wset_asK ?a ?b ?_); (case a => assumption); (case b => row_cond dsz))
  | (with_reducible refine getD_asK ?_)
  | ((with_reducible refine' popD_asK ?b ?_); (case b => assumption))
  | ((with_reducible refine' wx_asT ?a ?b ?_); (case a => assumption); (case b => assumption))
  | ((with_reducible refine' wo_inAsT ?a ?_); (case a => assumption))
  | ((with_reducible refine' wo_ninAsT ?a ?_); (case a => assumption))
  | ((with_reducible refine' wset_asT ?a ?b ?_); (case a => assumption); (case b => row_cond dsz))
  | (with_reducible refine getD_asT ?_)
  | ((with_reducible refine' wc_sortedAs ?a ?_); (case a => assumption)))
local macro_rules | `(tactic| row_cond dO) => `(tactic| first
  | (with_reducible refine wc_lenAsK ?_)
  | (with_reducible refine wc_lenAsT ?_))
local macro_rules | `(tactic| row_cond dI) => `(tactic| first
  | (with_reducible refine wiv_asK ?_))
local macro_rules | `(tactic| row_cond dV) => `(tactic| (with_reducible refine star_go ?_))
local macro_rules | `(tactic| row_cond dO) => `(tactic| first
  | ((with_reducible refine' wc_sortedAsT ?a ?b ?_); (case a => assumption); (case b => assumption))
  | ((with_reducible refine' wm_insert ?a ?b ?c ?_); (case a => row_cond dsz); (case b => omega); (case c => omega)))
local macro_rules | `(tactic| row_cond dE) => `(tactic| first
  | ((with_reducible refine we_bm (T := "list") PySem.F.plainAttrs_list PySem.F.slot_list_insert PySem.F.type_list_insert ?a ?b ?c ?d ?e ?_); (case a => rfl); (case b => rfl); (case c => rfl); (case d => rfl); (case e => rfl)))

local macro_rules | `(tactic| row_cond dspec) => `(tactic| first
  | ((with_reducible refine' sp_law_next_go ?a ?b ?c ?_); (case a => assumption); (case b => first | decide | omega | (split <;> omega)); (case c => first | decide | omega | (split <;> omega)))
  | (with_reducible refine sp_law_mix_go ?_))
local macro_rules | `(tactic| row_cond dmore) => `(tactic| first
  | (with_reducible refine ⟨_, [], rfl, ?_⟩))

/-! ### names that differ -/
def lowD : Str := "abcdefghijklmnopqrstuvwxyz0123456789"
theorem lowD_len : lowD.length = 36 := by decide +kernel
theorem lowD_inj {a b : Nat} (ha : a < 26) (hb : b < 26) (h : (sg lowD)[a]? = (sg lowD)[b]?) : a = b := by
  have k : ∀ a b : _root_.Fin 26, (sg lowD)[a.val]? = (sg lowD)[b.val]? → a = b := by decide +kernel
  have := k ⟨a, ha⟩ ⟨b, hb⟩ h
  exact congrArg Fin.val this
def sp_law_names : SpD := fun ds M _ Q => ∃ (p : Addr) (st : D) (n : Int), ds = [.ref p, .int n] ∧ M = [(p, st)] ∧ DrawSt st ∧ 0 ≤ n ∧ n ≤ 25 ∧ ∀ (ws : List Str) (st' : D), (ws.length : Int) = n → ws.Nodup → DrawSt st' → Q (.lst (ws.map D.str)) [(p, st')]
theorem mid_at {α : Type} {u v : List α} {c : α} {n : Nat} (h : u.length = n) : (u ++ [c] ++ v)[n]? = some c := by
  rw [List.append_assoc, List.getElem?_append_right (by omega), h, Nat.sub_self]; rfl
local macro_rules | `(tactic| row_cond dret) => `(tactic| (with_reducible refine ws_retV ?_))
theorem cal_law_names {P : Program} {w : World} {K : PySem.W.Frag} {mg : Str → Option Value} {base : Heap} (T : Tx mg) (Da : DefAt K mg "_law_names" s_law_names) (c_law_next : Cal P w K mg base 2 "_law_next" sp_law_next) : Cal P w K mg base (3) "_law_names" sp_law_names := by
  refine calD (k := 2) Da sc_law_names (fun f fd Fu => Fu.binds fun _ _ _ _ _ _ us hl => match us, hl with | [_, _], _ => rfl) (by row_cond dlen) (fun X F hX nm ds M R Q hS => ?_)
  have hst := hX.std
  have n_state : NameAt X 0 "state" := nm.name rfl (.inl rfl) (by decide) (by decide)
  have s_state : StoreAt X 0 "state" := nm.store rfl (.inl rfl)
  have n_many : NameAt X 1 "many" := nm.name rfl (.inl rfl) (by decide) (by decide)
  have s_many : StoreAt X 1 "many" := nm.store rfl (.inl rfl)
  have n_letters : NameAt X 2 "letters" := nm.name rfl (.inl rfl) (by decide) (by decide)
  have s_letters : StoreAt X 2 "letters" := nm.store rfl (.inl rfl)
  have n_at : NameAt X 3 "at" := nm.name rfl (.inl rfl) (by decide) (by decide)
  have s_at : StoreAt X 3 "at" := nm.store rfl (.inl rfl)
  have n_shift : NameAt X 4 "shift" := nm.name rfl (.inl rfl) (by decide) (by decide)
  have s_shift : StoreAt X 4 "shift" := nm.store rfl (.inl rfl)
  have n_names : NameAt X 5 "names" := nm.name rfl (.inl rfl) (by decide) (by decide)
  have s_names : StoreAt X 5 "names" := nm.store rfl (.inl rfl)
  have n_k : NameAt X 6 "k" := nm.name rfl (.inl rfl) (by decide) (by decide)
  have s_k : StoreAt X 6 "k" := nm.store rfl (.inl rfl)
  have n_word : NameAt X 7 "word" := nm.name rfl (.inl rfl) (by decide) (by decide)
  have s_word : StoreAt X 7 "word" := nm.store rfl (.inl rfl)
  have n_j : NameAt X 8 "j" := nm.name rfl (.inl rfl) (by decide) (by decide)
  have s_j : StoreAt X 8 "j" := nm.store rfl (.inl rfl)
  have g_law_next : Gl X "_law_next" := nm.gl rfl
  have b_range : BltAt X "range" (.type "range") := nm.blt hX rfl T.z_range bo_range (by decide) (by decide)
  have b_int : BltAt X "int" (.type "int") := nm.blt hX rfl T.z_int bo_int (by decide) (by decide)
  have m_range : X.mg "range" = none := by rw [hX.mg]; exact T.z_range
  obtain ⟨p, st, n, rfl, rfl, hs, h0, h1, hq⟩ := hS
  row_cond dstart
  refine wss_cons ?_
  refine ws_mid (fun Γ => Γ = ⟨[some (.ref p), some (.int n), some (.str lowD), none, none, none, none, none, none], [(p, st)], R⟩) ?_ ?_
  · row_cond go; rfl
  intro Γ e
  subst e
  have hL := lowD_len
  row_cond gon
  rename_i at_ s1 ha0 ha1 hs1 sh s2 hh0 hh1 hs2 q
  clear hs hs1
  refine ws_forW hst (fun _ => rfl) ?_
  row_cond go
  refine ⟨fun i Γ => ∃ (st : D) (ws : List Str) (k w j : Option D), Γ = ⟨[some (.ref p), some (.int n), some (.str lowD), some (.int at_), some (.int sh), some (.ref q), k, w, j], [(q, .lst (ws.map D.str)), (p, st)], R⟩ ∧ DrawSt st ∧ ws.length = i ∧ ∀ (m : Nat) w, ws[m]? = some w → (sg w)[at_.toNat]? = (sg lowD)[((sh + 5 * (m : Int)) % 26).toNat]?, ⟨_, [], _, _, _, rfl, hs2, rfl, fun m w h => by simp at h⟩, fun _ _ _ => trivial, fun i x Γ hx hW => ?_, fun Γ hW => ?_⟩
  · obtain ⟨st, ws, k, w, j, rfl, hs, hi, hws⟩ := hW
    obtain ⟨hin, rfl⟩ := rngD_at hx
    row_cond gon
    refine ws_mid (fun Γ => ∃ (st : D) (w : Str) (j : Option D), Γ = ⟨[some (.ref p), some (.int n), some (.str lowD), some (.int at_), some (.int sh), some (.ref q), some (.int (0 + (i : Int))), some (.str w), j], [(q, .lst (ws.map D.str)), (p, st)], R⟩ ∧ DrawSt st ∧ at_ ≤ w.length ∧ w.length ≤ 10) ?_ ?_
    · refine ws_for hst (fun _ => rfl) ?_
      row_cond go
      rename_i r2 s3 hr2 hr2' hs3
      refine ⟨fun i' Γ => ∃ (st : D) (w : Str) (j : Option D), Γ = ⟨[some (.ref p), some (.int n), some (.str lowD), some (.int at_), some (.int sh), some (.ref q), some (.int (0 + (i : Int))), some (.str w), j], [(q, .lst (ws.map D.str)), (p, st)], R⟩ ∧ DrawSt st ∧ w.length = i', ⟨_, _, _, rfl, hs3, by decide +kernel⟩, fun _ _ _ => trivial, fun i' x Γ hx hW => ?_, fun Γ hW => ?_⟩
      · obtain ⟨st, w, j, rfl, hs, hw⟩ := hW
        obtain ⟨hj, rfl⟩ := rngD_at hx
        haveI : SzLe w 10 := ⟨by omega⟩
        row_cond go
        · rename_i hz r3 s4 _ _ hs4 c hc
          have : i' = 0 := by omega
          subst this
          exact ⟨_, _, _, rfl, hs4, rfl⟩
        · rename_i hz r3 s4 _ _ hs4 c hc
          exact ⟨_, _, _, rfl, hs4, by rw [← sg_len, sg_app, List.length_append, sg_len, hw]; rfl⟩
      · obtain ⟨st, w, j, rfl, hs, hw⟩ := hW
        rw [rngD_len] at hw
        exact ⟨_, _, _, rfl, hs, by omega, by omega⟩
    clear hs
    rintro Γ ⟨st, w, j, rfl, hs, hw0, hw1⟩
    haveI : SzLe w 10 := ⟨hw1⟩
    have hwl : ws.length ≤ 25 := by omega
    row_cond go
    rename_i c hc
    refine ⟨_, .refl _, _, ws ++ [_], _, _, _, rfl, hs, by simp [hi], fun m u hm => ?_⟩
    by_cases hml : m < ws.length
    · rw [List.getElem?_append_left hml] at hm
      exact hws m u hm
    · have hmi : m = ws.length := by
        have := (List.getElem?_eq_some_iff.mp hm).1
        rw [List.length_append] at this
        simp at this; omega
      rw [hmi, List.getElem?_append_right (Nat.le_refl _), Nat.sub_self] at hm
      cases hm
      rw [sg_app, sg_app, sg_one, mid_at (by
        rw [sg_slice, cut_to _ ha0, List.length_take, sg_len]
        omega), hmi, hi]
      have e : (sh + 5 * (0 + (i : Int))) = sh + 5 * (i : Int) := by omega
      rw [e] at hc
      exact hc.symm
  · obtain ⟨st, ws, k, w, j, rfl, hs, hi, hws⟩ := hW
    rw [rngD_len] at hi
    row_cond go
    refine rt1 (hq _ _ (by omega) ?_ hs)
    rw [List.nodup_iff_pairwise_ne, List.pairwise_iff_getElem]
    intro a b ha hb hab e
    have e1 := hws a _ (List.getElem?_eq_getElem ha)
    have e2 := hws b _ (List.getElem?_eq_getElem hb)
    rw [e] at e1
    have := lowD_inj (by omega) (by omega) (e1.symm.trans e2)
    omega

end K50


namespace K50
open PySem PySem.Spec PyProof.Rows L2 DL

/-! ### the plain law -/
structure Part (N G K F gm km : List Str) : Prop where
  gn : ∀ n ∈ G, n ∈ N
  kn : ∀ n ∈ K, n ∈ N
  fn : ∀ n ∈ F, n ∈ N
  all : ∀ n ∈ N, n ∈ G ∨ n ∈ K ∨ n ∈ F
  gk : ∀ n ∈ G, n ∉ K
  gf : ∀ n ∈ G, n ∉ F
  kf : ∀ n ∈ K, n ∉ F
  gm : ∀ n ∈ gm, n ∈ F
  km : ∀ n ∈ km, n ∈ F
theorem cut_cut {N G K F gm km : List Str} (l : Lot) : redCut gm (redCut G l) = redCut (G ++ gm) l := by
  unfold redCut
  rw [List.filter_filter]
  refine List.filter_congr fun n _ => ?_
  rw [Bool.eq_iff_iff]
  simp only [Bool.and_eq_true, Bool.not_eq_true', decide_eq_false_iff_not, List.mem_append, not_or]
  exact And.comm
theorem redOk_iff {C K : List Str} {l : Lot} : redOk C K l = true ↔ ∀ n ∈ l, n ∈ C ∧ n ∉ K := by
  unfold redOk
  simp [List.all_eq_true]
theorem mem_cutR {G : List Str} {l : Lot} {n : Str} : n ∈ redCut G l ↔ n ∈ l ∧ n ∉ G := by
  unfold redCut
  simp [List.mem_filter]
theorem ok_ok {N G K F gm km : List Str} (P : Part N G K F gm km) (l : Lot) : redOk N (K ++ km) l = (redOk N K l && redOk F km (redCut G l)) := by
  rw [Bool.eq_iff_iff, Bool.and_eq_true, redOk_iff, redOk_iff, redOk_iff]
  constructor
  · intro h
    refine ⟨fun n hn => ⟨(h n hn).1, fun z => (h n hn).2 (List.mem_append_left _ z)⟩, fun n hn => ?_⟩
    obtain ⟨h1, h2⟩ := mem_cutR.mp hn
    obtain ⟨a, b⟩ := h n h1
    refine ⟨?_, fun z => b (List.mem_append_right _ z)⟩
    rcases P.all n a with z | z | z
    · exact absurd z h2
    · exact absurd (List.mem_append_left _ z) b
    · exact z
  · rintro ⟨h1, h2⟩ n hn
    refine ⟨(h1 n hn).1, fun z => ?_⟩
    rcases List.mem_append.mp z with z | z
    · exact (h1 n hn).2 z
    · by_cases hg : n ∈ G
      · exact P.gf n hg (P.km n z)
      · exact (h2 n (mem_cutR.mpr ⟨hn, hg⟩)).2 z
theorem sum_rows (p : Lot → Bool) (L : Lg) (C G K : List Str) : sumIf p (redRows L C G K) = sumIf (fun l => (redOk C K l && !decide ((redCut G l).length = 0)) && p (redCut G l)) L := by
  unfold redRows
  rw [sumIf_map]
  exact sumIf_filter (q := fun l => redOk C K l && !decide ((redCut G l).length = 0))
theorem sum_T (p : Lot → Bool) (rs : Lg) : sumIf p (srtL (tab rs)) = sumIf p rs := by
  rw [sumIf_perm (show (srtL (tab rs)).Perm (tab rs) from srt_perm), tab_sum]
theorem cut_nil {G : List Str} {l : Lot} (h : (redCut G l).length = 0) : redCut G l = [] := List.eq_nil_of_length_eq_zero h
theorem whole_sure {N G K F gm km : List Str} (P : Part N G K F gm km) (L : Lg) : redSure L N (G ++ gm) (K ++ km) = redSure L N G K + redSure (srtL (tab (redRows L N G K))) F gm km := by
  unfold redSure
  rw [sum_T, sum_rows, sumIf_split (q := fun l => decide ((redCut G l).length = 0))]
  congr 1
  · refine sumIf_congr fun r _ => ?_
    show ((redOk N (K ++ km) r.1 && decide ((redCut (G ++ gm) r.1).length = 0)) && decide ((redCut G r.1).length = 0)) = (redOk N K r.1 && decide ((redCut G r.1).length = 0))
    rw [ok_ok P, ← cut_cut (N := N) (K := K) (F := F) (km := km)]
    by_cases h : (redCut G r.1).length = 0
    · rw [cut_nil h]
      simp [redOk, redCut]
    · simp [h]
  · refine sumIf_congr fun r _ => ?_
    show ((redOk N (K ++ km) r.1 && decide ((redCut (G ++ gm) r.1).length = 0)) && !decide ((redCut G r.1).length = 0)) = ((redOk N K r.1 && !decide ((redCut G r.1).length = 0)) && (redOk F km (redCut G r.1) && decide ((redCut gm (redCut G r.1)).length = 0)))
    rw [ok_ok P, ← cut_cut (N := N) (K := K) (F := F) (km := km)]
    cases redOk N K r.1 <;> cases redOk F km (redCut G r.1) <;> simp [Bool.and_comm]
theorem whole_tab {N G K F gm km : List Str} (P : Part N G K F gm km) (L : Lg) : srtL (tab (redRows L N (G ++ gm) (K ++ km))) = srtL (tab (redRows (srtL (tab (redRows L N G K))) F gm km)) := by
  refine tab_ext (fun l => ?_) fun l => ?_
  · have keyT : ∀ m, m ∈ (srtL (tab (redRows L N G K))).map (·.1) ↔ m ∈ (redRows L N G K).map (·.1) := fun m => by
      exact Iff.trans ((show (srtL (tab (redRows L N G K))).Perm (tab (redRows L N G K)) from srt_perm).map (·.1)).mem_iff tab_keys
    have rowK : ∀ {L : Lg} {C G K : List Str} {m : Lot}, m ∈ (redRows L C G K).map (·.1) ↔ ∃ k ∈ L.map (·.1), redOk C K k = true ∧ (redCut G k).length ≠ 0 ∧ redCut G k = m := fun {L C G K m} => by
      unfold redRows
      rw [List.map_map, List.mem_map]
      constructor
      · rintro ⟨r, hr, rfl⟩
        obtain ⟨h1, h2⟩ := List.mem_filter.mp hr
        simp only [Bool.and_eq_true, Bool.not_eq_true', decide_eq_false_iff_not] at h2
        exact ⟨r.1, List.mem_map_of_mem (f := Prod.fst) h1, h2.1, h2.2, rfl⟩
      · rintro ⟨k, hk, h1, h2, rfl⟩
        obtain ⟨r, hr, rfl⟩ := List.mem_map.mp hk
        exact ⟨r, List.mem_filter.mpr ⟨hr, by simp [h1, h2]⟩, rfl⟩
    rw [rowK, rowK]
    constructor
    · rintro ⟨k, hk, h1, h2, h3⟩
      rw [ok_ok P, Bool.and_eq_true] at h1
      rw [← cut_cut (N := N) (K := K) (F := F) (km := km)] at h2 h3
      have hne : (redCut G k).length ≠ 0 := fun z => h2 (by rw [cut_nil z]; rfl)
      exact ⟨redCut G k, (keyT _).mpr (rowK.mpr ⟨k, hk, h1.1, hne, rfl⟩), h1.2, h2, h3⟩
    · rintro ⟨m, hm, h1, h2, h3⟩
      obtain ⟨k, hk, h4, h5, rfl⟩ := rowK.mp ((keyT m).mp hm)
      refine ⟨k, hk, by rw [ok_ok P, h4, h1]; rfl, ?_, ?_⟩
      · rw [← cut_cut (N := N) (K := K) (F := F) (km := km)]; exact h2
      · rw [← cut_cut (N := N) (K := K) (F := F) (km := km)]; exact h3
  · rw [sum_rows, sum_rows, sum_T, sum_rows]
    refine sumIf_congr fun r _ => ?_
    show ((redOk N (K ++ km) r.1 && !decide ((redCut (G ++ gm) r.1).length = 0)) && decide (redCut (G ++ gm) r.1 = l)) = ((redOk N K r.1 && !decide ((redCut G r.1).length = 0)) && ((redOk F km (redCut G r.1) && !decide ((redCut gm (redCut G r.1)).length = 0)) && decide (redCut gm (redCut G r.1) = l)))
    rw [ok_ok P, ← cut_cut (N := N) (K := K) (F := F) (km := km)]
    by_cases h : (redCut G r.1).length = 0
    · rw [cut_nil h]
      simp [redOk, redCut]
    · cases redOk N K r.1 <;> simp [h, Bool.and_assoc]
/-- what more is freed -/
theorem freed_more {N G K F gm km : List Str} (P : Part N G K F gm km) (L : Lg) {lot : List Str} (hl : ∀ n ∈ lot, n ∈ F) :
    sumIf (fun l => l.all fun n => decide (n ∈ G ++ lot)) L = redSure L N G K + sumIf (fun l => l.all fun n => decide (n ∈ lot)) (srtL (tab (redRows L N G K))) := by
  unfold redSure
  rw [sum_T, sum_rows, sumIf_split (q := fun l => decide ((redCut G l).length = 0))]
  have hok : ∀ l : Lot, (∀ n ∈ l, n ∈ G ∨ n ∈ lot) → redOk N K l = true := fun l h => redOk_iff.mpr fun n hn => by
    rcases h n hn with z | z
    · exact ⟨P.gn n z, P.gk n z⟩
    · exact ⟨P.fn n (hl n z), fun y => P.kf n y (hl n z)⟩
  congr 1
  · refine sumIf_congr fun r _ => ?_
    show ((r.1.all fun n => decide (n ∈ G ++ lot)) && decide ((redCut G r.1).length = 0)) = (redOk N K r.1 && decide ((redCut G r.1).length = 0))
    by_cases h : (redCut G r.1).length = 0
    · have hg : ∀ n ∈ r.1, n ∈ G := fun n hn => Classical.byContradiction fun z => by
        have := mem_cutR.mpr ⟨hn, z⟩
        rw [cut_nil h] at this; cases this
      have e1 : (r.1.all fun n => decide (n ∈ G ++ lot)) = true := List.all_eq_true.mpr fun n hn => decide_eq_true (List.mem_append_left _ (hg n hn))
      rw [e1, hok r.1 fun n hn => .inl (hg n hn)]
    · simp [h]
  · refine sumIf_congr fun r _ => ?_
    show ((r.1.all fun n => decide (n ∈ G ++ lot)) && !decide ((redCut G r.1).length = 0)) = ((redOk N K r.1 && !decide ((redCut G r.1).length = 0)) && (redCut G r.1).all fun n => decide (n ∈ lot))
    by_cases h : (redCut G r.1).length = 0
    · simp [h]
    · rw [Bool.eq_iff_iff]
      simp only [h, decide_false, Bool.not_false, Bool.and_true, Bool.and_eq_true, List.all_eq_true, decide_eq_true_eq, List.mem_append]
      constructor
      · intro q
        exact ⟨hok _ q, fun n hn => by
          obtain ⟨a, b⟩ := mem_cutR.mp hn
          exact (q n a).resolve_left b⟩
      · rintro ⟨_, q⟩ n hn
        by_cases hg : n ∈ G
        · exact .inl hg
        · exact .inr (q n (mem_cutR.mpr ⟨hn, hg⟩))
theorem sumIf_pos {p : Lot → Bool} {rs : Lg} (h : ∀ r ∈ rs, 0 < r.2) : 0 ≤ sumIf p rs ∧ ((∃ r ∈ rs, p r.1 = true) → 0 < sumIf p rs) := by
  induction rs with
  | nil => exact ⟨Int.le_refl _, fun ⟨r, hr, _⟩ => by cases hr⟩
  | cons r rs ih =>
    obtain ⟨a, b⟩ := ih fun x hx => h x (List.mem_cons_of_mem _ hx)
    have hr := h r List.mem_cons_self
    rw [sumIf_cons]
    refine ⟨by split <;> omega, ?_⟩
    rintro ⟨x, hx, hp⟩
    rcases List.mem_cons.mp hx with rfl | hx
    · rw [if_pos hp]; omega
    · have := b ⟨x, hx, hp⟩
      split <;> omega
theorem lgOk_T {rs : Lg} (h : LgOk rs) : LgOk (srtL (tab rs)) := by
  refine ⟨by show (srt _ _).length ≤ _; rw [srt_len]; exact Nat.le_trans (tab_len _) h.1, fun r hr => ?_⟩
  have hr2 : r ∈ tab rs := mem_srt.mp hr
  have hk := tab_keys.mp (List.mem_map_of_mem (f := Prod.fst) hr2)
  obtain ⟨q, hq, e⟩ := List.mem_map.mp hk
  obtain ⟨a, b, c⟩ := h.2 q hq
  rw [← e]
  refine ⟨a, b, ?_⟩
  have g := getE_of (tab_nodup rs) (show (r.1, r.2) ∈ tab rs from hr2)
  have s1 := sum_one (tab_nodup rs) r.1
  rw [g, tab_sum] at s1
  have s2 := (sumIf_pos (p := fun m => decide (m = r.1)) fun x hx => (h.2 x hx).2.2).2 ⟨q, hq, by simp [e]⟩
  have s3 : sumIf (fun m => decide (m = r.1)) rs = r.2 := s1
  omega
theorem red_congr {L : Lg} {C G K C' G' K' : List Str} (hC : ∀ n, n ∈ C' ↔ n ∈ C) (hG : ∀ n, n ∈ G' ↔ n ∈ G) (hK : ∀ n, n ∈ K' ↔ n ∈ K) : redSure L C' G' K' = redSure L C G K ∧ redRows L C' G' K' = redRows L C G K := by
  have e1 : redOk C' K' = redOk C K := by
    funext l
    unfold redOk
    congr 1
    funext n
    rw [decide_eq_decide.mpr (hC n), decide_eq_decide.mpr (hK n)]
  have e2 : redCut G' = redCut G := by
    funext l
    unfold redCut
    congr 1
    funext n
    rw [decide_eq_decide.mpr (hG n)]
  unfold redSure redRows
  rw [e1, e2]
  exact ⟨rfl, rfl⟩

end K50


namespace K50
open PySem PySem.Spec PyProof.Rows L2 DL

/-! ### the law's own head -/
theorem ok_start {P : Program} {w : World} {K : PySem.W.Frag} {mg : Str → Option Value} {base : Heap} (T : Tx mg) {f : Addr} {fd : FuncData} (Fu : Fun K "_law_start" "_law_start" s_law_start f fd) : FnOk P w K mg base CX0 1 f fd ["script"] (spStart K) := by
  refine Fu.ok sc_law_start (fun vs H Q E h => ?_) (fun cdv A outer s H vs Q E hr h => ?_)
  · obtain ⟨a, ns, rfl, _⟩ := h
    rfl
  · obtain ⟨a, ns, rfl, hS, hl, q⟩ := h
    refine ⟨_, pss_one (ps_ret (pe_lst (pa_cons (pe_callTy call_list_of (by rfl) T.z_list bo_list (pa_cons (pv 0) pa_nil)) (pa_cons pe_int (pa_cons pe_int (pa_cons pe_int pa_nil)))))), ?_⟩
    exact ⟨.ref a, rfl, a, _, rfl, .inl hS, fun l hl1 => ⟨Nat.le_of_ble_eq_true rfl, fun p hp => q l p hl1 hp⟩⟩
theorem ok_law {P : Program} {w : World} {K : PySem.W.Frag} {mg : Str → Option Value} {base : Heap} {k : Nat} (T : Tx mg) {f fS : Addr} {fd fdS : FuncData} (Fu : Fun K "law" "law" s_law f fd) (FS : Fun K "_law_start" "_law_start" s_law_start fS fdS) (gS : mg "_law_start" = some (.ref fS)) (hk : 1 ≤ k)
    (hrest : ∀ (X : Cx) (F : Fr), In X P w K mg base k → Nm X N_law (defScope s_law) → ∀ p st, DrawSt st → WSs X F (defBody s_law).tail ⟨none :: some (.ref p) :: List.replicate (N_law.length - 2) none, [(p, st)], []⟩ (outD fun d _ => d = .bl true)) : FnOk P w K mg base CX0 (k + 1) f fd ["script"] (spLaw K) := by
  have bS : Binds K fdS ["script"] [] := FS.binds fun _ _ _ _ _ _ us hl => match us, hl with | [_], _ => rfl
  have GS : FnOk P w K mg base CX0 1 fS fdS ["script"] (spStart K) := ok_start T FS
  refine Fu.ok sc_law (fun vs H Q E h => ?_) (fun cdv A outer s H vs Q E hr h => ?_)
  · obtain ⟨a, ns, rfl, _⟩ := h
    rfl
  · obtain ⟨a, ns, rfl, hS, hl, q⟩ := h
    refine ⟨_, pss_cons (ps_set (i := 1) sc_law.nd rfl (by first | exact .inl rfl | exact .inr rfl) (pe_call GS (hr.mono hk) (by rfl) gS FS.kp bS .nil pass0 (pa_cons (pv 0) pa_nil))) pss_U, ?_⟩
    refine ⟨.ref a, rfl, a, ns, rfl, hS, hl, fun r p hq hp => ?_⟩
    have hin : In (cxOf CX0 P w K mg base N_law "law" (defScope s_law) f cdv A outer s H E).nox P w K mg base k := ⟨rfl, rfl, rfl, rfl, rfl, hr, rfl, sc_law.nd, rfl⟩
    refine hrest _ ⟨fun _ => none, fun _ => none⟩ hin ⟨rfl, rfl, rfl⟩ p _ ⟨ns, 0, 0, 0, rfl, hl, by omega, by omega⟩ _ _ _ (start_holds hq hp rfl fun i d e => ?_) _ ⟨?_, ?_, ?_, ?_⟩
    · match i, e with
      | 0, e => cases e
      | 1, e => cases e; exact ⟨rfl, rfl⟩
      | i + 2, e =>
        have e2 : (List.replicate (N_law.length - 2) (none : Option D))[i]? = some (some d) := e
        rw [List.getElem?_replicate] at e2
        split at e2 <;> cases e2
    · rintro Γ' G' σ' H' ⟨M', _, _, hp⟩ _ _
      cases hp
    · rintro d Γ' G' σ' v H' ⟨M', _, _, rfl⟩ _ _ rv
      cases rv
      exact q _
    · exact fun _ _ _ _ z => z.elim
    · exact fun _ _ _ _ z => z.elim

end K50


namespace K50
open PySem PySem.Spec PyProof.Rows L2 DL
local macro_rules | `(tactic| row_cond dcall) => `(tactic| first
  | ((with_reducible refine' we_callS (x := "make_lot") ?c ?x ?j ?g ?d ?e ?_); (case c => assumption); (case x => assumption); (case j => first | decide | exact Nat.le_refl _ | omega); (case g => assumption); (case d => decide); (case e => rfl))
  | ((with_reducible refine' we_call (x := "make_ledger") ?c ?x ?j ?g ?d ?e ?p ?_); (case c => assumption); (case x => assumption); (case j => first | decide | exact Nat.le_refl _ | omega); (case g => assumption); (case d => decide); (case e => rfl); (case p => rfl))
  | ((with_reducible refine' we_call (x := "freed") ?c ?x ?j ?g ?d ?e ?p ?_); (case c => assumption); (case x => assumption); (case j => first | decide | exact Nat.le_refl _ | omega); (case g => assumption); (case d => decide); (case e => rfl); (case p => rfl))
  | ((with_reducible refine' we_call (x := "reduced") ?c ?x ?j ?g ?d ?e ?p ?_); (case c => assumption); (case x => assumption); (case j => first | decide | exact Nat.le_refl _ | omega); (case g => assumption); (case d => decide); (case e => rfl); (case p => rfl))
  | ((with_reducible refine' we_call (x := "_law_mix") ?c ?x ?j ?g ?d ?e ?p ?_); (case c => assumption); (case x => assumption); (case j => first | decide | exact Nat.le_refl _ | omega); (case g => assumption); (case d => decide); (case e => rfl); (case p => rfl))
  | ((with_reducible refine' we_call (x := "_law_start") ?c ?x ?j ?g ?d ?e ?p ?_); (case c => assumption); (case x => assumption); (case j => first | decide | exact Nat.le_refl _ | omega); (case g => assumption); (case d => decide); (case e => rfl); (case p => rfl))
  | ((with_reducible refine' we_call1 (x := "_law_next") ?c ?x ?j ?g ?d ?e ?p ?_); (case c => assumption); (case x => assumption); (case j => first | decide | exact Nat.le_refl _ | omega); (case g => assumption); (case d => decide); (case e => rfl); (case p => rfl))
  | ((with_reducible refine' we_call (x := "_law_is") ?c ?x ?j ?g ?d ?e ?p ?_); (case c => assumption); (case x => assumption); (case j => first | decide | exact Nat.le_refl _ | omega); (case g => assumption); (case d => decide); (case e => rfl); (case p => rfl))
  | ((with_reducible refine' we_call1 (x := "_law_names") ?c ?x ?j ?g ?d ?e ?p ?_); (case c => assumption); (case x => assumption); (case j => first | decide | exact Nat.le_refl _ | omega); (case g => assumption); (case d => decide); (case e => rfl); (case p => rfl))
  | ((with_reducible refine' we_call1 (x := "_law_lot") ?c ?x ?j ?g ?d ?e ?p ?_); (case c => assumption); (case x => assumption); (case j => first | decide | exact Nat.le_refl _ | omega); (case g => assumption); (case d => decide); (case e => rfl); (case p => rfl))
  | ((with_reducible refine' we_call1 (x := "_law_ledger") ?c ?x ?j ?g ?d ?e ?p ?_); (case c => assumption); (case x => assumption); (case j => first | decide | exact Nat.le_refl _ | omega); (case g => assumption); (case d => decide); (case e => rfl); (case p => rfl))
  | ((with_reducible refine' we_call1 (x := "_law_turned") ?c ?x ?j ?g ?d ?e ?p ?_); (case c => assumption); (case x => assumption); (case j => first | decide | exact Nat.le_refl _ | omega); (case g => assumption); (case d => decide); (case e => rfl); (case p => rfl))
  | ((with_reducible refine' we_call (x := "_law_reduced") ?c ?x ?j ?g ?d ?e ?p ?_); (case c => assumption); (case x => assumption); (case j => first | decide | exact Nat.le_refl _ | omega); (case g => assumption); (case d => decide); (case e => rfl); (case p => rfl))
  | ((with_reducible refine' we_call (x := "_law_freed") ?c ?x ?j ?g ?d ?e ?p ?_); (case c => assumption); (case x => assumption); (case j => first | decide | exact Nat.le_refl _ | omega); (case g => assumption); (case d => decide); (case e => rfl); (case p => rfl))
  | ((with_reducible refine' we_call1 (x := "_law_lots") ?c ?x ?j ?g ?d ?e ?p ?_); (case c => assumption); (case x => assumption); (case j => first | decide | exact Nat.le_refl _ | omega); (case g => assumption); (case d => decide); (case e => rfl); (case p => rfl))
  | ((with_reducible refine' we_call (x := "law") ?c ?x ?j ?g ?d ?e ?p ?_); (case c => assumption); (case x => assumption); (case j => first | decide | exact Nat.le_refl _ | omega); (case g => assumption); (case d => decide); (case e => rfl); (case p => rfl)))
/-! the steps: one line a construct -/
local macro_rules | `(tactic| row_cond dlen) => `(tactic| (intro ds M R Q h; first | (obtain ⟨h1, _⟩ := h; subst h1; rfl) | (obtain ⟨_, h1, _⟩ := h; subst h1; rfl) | (obtain ⟨_, _, h1, _⟩ := h; subst h1; rfl) | (obtain ⟨_, _, _, h1, _⟩ := h; subst h1; rfl) | (obtain ⟨_, _, _, _, h1, _⟩ := h; subst h1; rfl) | (obtain ⟨_, _, _, _, _, h1, _⟩ := h; subst h1; rfl) | (obtain ⟨_, _, _, _, _, _, h1, _⟩ := h; subst h1; rfl) | (obtain ⟨_, _, _, _, _, _, _, h1, _⟩ := h; subst h1; rfl) | (obtain ⟨_, _, _, _, _, _, _, _, h1, _⟩ := h; subst h1; rfl) | (obtain ⟨_, _, _, _, _, _, _, _, _, h1, _⟩ := h; subst h1; rfl) | (obtain ⟨_, _, _, _, _, _, _, _, _, _, h1, _⟩ := h; subst h1; rfl) | (obtain ⟨_, _, _, _, _, _, _, _, _, _, _, h1, _⟩ := h; subst h1; rfl) | (obtain ⟨_, _, _, _, _, _, _, _, _, _, _, _, h1, _⟩ := h; subst h1; rfl)))
local macro_rules | `(tactic| row_cond dsz) => `(tactic| first | exact Nat.le_of_ble_eq_true rfl | assumption | (simp only [List.length_map, List.length_cons, List.length_append, List.length_nil, List.length_reverse, List.length_take, List.length_drop, PySem.sizeLine]; omega))
/- expressions -/
local macro_rules | `(tactic| row_cond dE) => `(tactic| first
  | ((with_reducible refine' we_name ?n ?e ?_); (case n => assumption); (case e => rfl))
  | (with_reducible refine we_int ?_)
  | (with_reducible refine we_bl ?_)
  | (with_reducible refine we_str ?_)
  | (with_reducible refine we_non ?_)
  | (with_reducible refine we_bin ?_)
  | ((with_reducible refine' we_cmp ?n ?_); (case n => rfl))
  | (with_reducible refine we_slice ?_)
  | (with_reducible refine we_rev ?_)
  | ((with_reducible refine' we_ix ?n ?_); (case n => exact fun _ _ => rfl))
  | (with_reducible refine we_tupV ?_)
  | (with_reducible refine we_lstV ?_)
  | ((with_reducible refine' we_blt ?b ?n ?m ?_); (case b => assumption); (case n => rfl); (case m => rfl))
  | ((with_reducible refine' we_typ ?b ?n ?m ?_); (case b => assumption); (case n => rfl); (case m => rfl))
  | ((with_reducible refine' we_tyName ?b ?_); (case b => assumption))
  | (with_reducible refine we_one ?_)
  | (with_reducible refine we_and ?_)
  | (with_reducible refine we_or ?_)
  | (with_reducible refine we_not ?_)
  | (with_reducible refine we_ifexp ?_)
  | ((with_reducible refine' we_un ?n ?_); (case n => exact fun z => nomatch z))
  | row_cond dcall
  | ((with_reducible refine we_bm (T := "list") PySem.F.plainAttrs_list PySem.F.slot_list_append PySem.F.type_list_append ?a ?b ?c ?d ?e ?_); (case a => rfl); (case b => rfl); (case c => rfl); (case d => rfl); (case e => rfl))
  | ((with_reducible refine we_bm0 (T := "list") PySem.F.plainAttrs_list PySem.F.slot_list_pop PySem.F.type_list_pop ?a ?b ?_); (case a => rfl); (case b => rfl))
  | ((with_reducible refine we_bm (T := "list") PySem.F.plainAttrs_list PySem.F.slot_list_extend PySem.F.type_list_extend ?a ?b ?c ?d ?e ?_); (case a => rfl); (case b => rfl); (case c => rfl); (case d => rfl); (case e => rfl)))
/- tests -/
local macro_rules | `(tactic| row_cond dT) => `(tactic| first
  | ((with_reducible refine' wt_cmp ?n ?_); (case n => rfl))
  | (with_reducible refine wt_not ?_)
  | (with_reducible refine wt_bool ?_)
  | (with_reducible refine ww_and1 ?_)
  | (with_reducible refine ww_or1 ?_)
  | (with_reducible refine ww_and ?_)
  | (with_reducible refine ww_or ?_)
  | ((with_reducible refine' wt_val ?n ?_); (case n => exact fun _ => rfl)))
/- statements -/
local macro_rules | `(tactic| row_cond dS) => `(tactic| first
  | (with_reducible refine wss_cons ?_)
  | (with_reducible refine wss_nil ?_)
  | ((with_reducible refine' ws_set ?a ?n ?h ?_); (case a => assumption); (case n => assumption); (case h => rfl))
  | ((with_reducible refine' ws_sub ?h ?_); (case h => rfl))
  | ((with_reducible refine' ws_asg ?a ?n ?h ?_); (case a => rfl); (case n => rfl); (case h => rfl))
  | (with_reducible refine ws_if ?_)
  | row_cond dret
  | ((with_reducible refine' ws_expr ?h ?_); (case h => rfl))
  | (with_reducible refine ws_pass ?_)
  | (with_reducible refine ws_break ?_)
  | (with_reducible refine ws_continue ?_)
  | (with_reducible refine ws_retN ?_))
local macro_rules | `(tactic| row_cond dSn) => `(tactic| first
  | (with_reducible refine wss_cons ?_)
  | (with_reducible refine wss_nil ?_)
  | ((with_reducible refine' ws_set ?a ?n ?h ?_); (case a => assumption); (case n => assumption); (case h => rfl))
  | ((with_reducible refine' ws_sub ?h ?_); (case h => rfl))
  | ((with_reducible refine' ws_asg ?a ?n ?h ?_); (case a => rfl); (case n => rfl); (case h => rfl))
  | row_cond dret
  | ((with_reducible refine' ws_expr ?h ?_); (case h => rfl))
  | (with_reducible refine ws_pass ?_)
  | (with_reducible refine ws_break ?_)
  | (with_reducible refine ws_continue ?_)
  | (with_reducible refine ws_retN ?_))
/- arguments, targets, values -/
local macro_rules | `(tactic| row_cond dV) => `(tactic| first
  | (with_reducible refine wa_nil ?_)
  | ((with_reducible refine' wa_cons ?n ?_); (case n => rfl))
  | (with_reducible refine wav_nil ?_)
  | ((with_reducible refine' wav_cons ?n ?_); (case n => rfl))
  | (with_reducible refine put_go ?_)
  | (with_reducible refine fz_lst ?_)
  | (with_reducible refine fz_tup ?_)
  | (with_reducible refine fz_id ?_)
  | (with_reducible refine own0_go ?_)
  | (with_reducible refine own1_go ?_)
  | (with_reducible refine app_go ?_)
  | (with_reducible refine mset_go ?_)
  | ((with_reducible refine' wg_name ?a ?n ?_); (case a => assumption); (case n => assumption))
  | ((with_reducible refine' wg_tup ?a ?n ?h ?_); (case a => assumption); (case n => rfl); (case h => rfl))
  | (with_reducible refine wgs_nil ?_)
  | ((with_reducible refine' wgs_cons ?n ?_); (case n => rfl))
  | (with_reducible refine wpt_none ?_)
  | (with_reducible refine wpt_some ?_)
  | ((with_reducible refine' wset_list ?n ?_); (case n => first | rfl | row_cond dix)))
/- what is walked -/
local macro_rules | `(tactic| row_cond dI) => `(tactic| first
  | ((with_reducible refine' wi_range1 ?a ?b ?c ?_); (case a => exact BltAt.gl (by assumption)); (case b => exact BltAt.mg (by assumption)); (case c => rfl))
  | ((with_reducible refine' wi_range2 ?a ?b ?c ?d ?_); (case a => exact BltAt.gl (by assumption)); (case b => exact BltAt.mg (by assumption)); (case c => rfl); (case d => rfl))
  | (with_reducible refine wi_val ?_)
  | (with_reducible refine wiv_list ?_)
  | (with_reducible refine wiv_tup ?_)
  | (with_reducible refine wiv_seq ?_)
  | ((with_reducible refine' wgc_name ?a ?n ?h ?_); (case a => assumption); (case n => assumption); (case h => decide))
  | ((with_reducible refine' wgc_tup ?a ?n ?h ?_); (case a => assumption); (case n => rfl); (case h => rfl))
  | (with_reducible refine wgcs_nil ?_)
  | ((with_reducible refine' wgcs_cons ?n ?_); (case n => rfl))
  | (with_reducible refine wts_nil ?_)
  | (with_reducible refine wts_one ?_))
/- operations by values -/
local macro_rules | `(tactic| row_cond dO) => `(tactic| first
  | (with_reducible refine wo_add ?_)
  | (with_reducible refine wo_sub ?_)
  | ((with_reducible refine' wo_mulS ?n ?_); (case n => first | exact .inr ⟨by decide, by decide⟩ | exact .inl ⟨by decide, by decide⟩ | exact .inr ⟨by omega, by omega⟩ | exact .inl ⟨by omega, by omega⟩))
  | ((with_reducible refine' wo_fdiv ?n ?m ?_); (case n => first | decide | omega); (case m => first | decide | row_cond dlog))
  | ((with_reducible refine' wo_mod ?n ?_); (case n => first | decide | omega))
  | (with_reducible refine wo_powL ?_)
  | ((with_reducible refine' wo_pow ?n ?_); (case n => exact ⟨by decide, by decide, by decide⟩))
  | (with_reducible refine wo_xor ?_)
  | (with_reducible refine wo_lt ?_)
  | (with_reducible refine wo_le ?_)
  | (with_reducible refine wo_gt ?_)
  | (with_reducible refine wo_ge ?_)
  | (with_reducible refine wo_eqI ?_)
  | (with_reducible refine wo_neI ?_)
  | (with_reducible refine wo_eqS ?_)
  | (with_reducible refine wo_neS ?_)
  | (with_reducible refine wo_isN ?_)
  | (with_reducible refine wo_isnotN ?_)
  | (with_reducible refine wu_neg ?_)
  | (with_reducible refine wc_int ?_)
  | (with_reducible refine wc_intB ?_)
  | (with_reducible refine wc_abs ?_)
  | ((with_reducible refine' wc_max2 ?a ?_); (case a => assumption))
  | ((with_reducible refine' wc_min2 ?a ?_); (case a => assumption))
  | (with_reducible refine wc_list ?_)
  | (with_reducible refine wc_tuple ?_)
  | ((with_reducible refine' wc_lenS ?a ?_); (case a => row_cond dsz))
  | (with_reducible refine wc_lenM ?_)
  | (with_reducible refine wc_len ?_)
  | (with_reducible refine wc_isK ?_)
  | ((with_reducible refine' wc_allM ?a ?_); (case a => assumption))
  | ((with_reducible refine' wc_anyM ?a ?_); (case a => assumption))
  | ((with_reducible refine' wc_sum ?a ?_); (case a => assumption))
  | ((with_reducible refine' wx_list ?n ?_); (case n => row_cond dat))
  | ((with_reducible refine' wx_map ?a ?b ?_); (case a => omega); (case b => omega))
  | ((with_reducible refine' wx_seq ?a ?b ?_); (case a => omega); (case b => omega))
  | ((with_reducible refine' wx_tup ?n ?_); (case n => row_cond dat))
  | (with_reducible refine wsl_listM ?_)
  | (with_reducible refine wsl_list ?_)
  | (with_reducible refine wrev_goM ?_)
  | (with_reducible refine wrev_go ?_)
  | ((with_reducible refine' wo_catM ?n ?_); (case n => row_cond dsz))
  | ((with_reducible refine' wo_cat ?n ?_); (case n => row_cond dsz))
  | ((with_reducible refine' wm_append ?n ?_); (case n => row_cond dsz)))
local macro_rules | `(tactic| row_cond dat) => `(tactic| rfl)
local macro_rules | `(tactic| row_cond dix) => `(tactic| rfl)
local macro_rules | `(tactic| row_cond dlog) => `(tactic| first | decide | exact log_small (by omega) (by omega))
/- what stands between -/
local macro_rules | `(tactic| row_cond dQ) => `(tactic| first
  | (with_reducible refine ⟨_, rfl, ?_⟩)
  | (with_reducible refine br_true ?_)
  | (with_reducible refine br_false ?_)
  | (with_reducible refine rb_true ?_)
  | (with_reducible refine rb_false ?_)
  | ((with_reducible refine' br_dec ?_ ?_) <;> intro _)
  | ((with_reducible refine' br_ndec ?_ ?_) <;> intro _)
  | ((with_reducible refine' rb_dec ?_ ?_) <;> intro _)
  | ((with_reducible refine' rb_ndec ?_ ?_) <;> intro _)
  | (refine br_is rfl ?_)
  | (refine br_isnot rfl ?_)
  | (refine rb_is rfl ?_)
  | (refine rb_isnot rfl ?_)
  | ((with_reducible refine' ⟨⟨?a, ?b⟩, ?_⟩); (case a => omega); (case b => omega))
  | ((with_reducible refine' ⟨⟨?a, ?b, ?c, ?d⟩, ?_⟩); (case a => omega); (case b => omega); (case c => omega); (case d => omega))
  | (with_reducible refine app_go ?_)
  | (with_reducible refine ⟨tym_list, ?_⟩)
  | (with_reducible refine ⟨tym_str, ?_⟩)
  | ((with_reducible refine ⟨?n, ?_⟩); (case n => (show _ ≤ PySem.sizeLine); row_cond dsz))
  | (with_reducible intro _))
local macro_rules | `(tactic| row_cond dstart) => `(tactic| simp only [startD, List.map_cons, List.map_nil, List.length_cons, List.length_nil, List.cons_append, List.nil_append, Nat.zero_add, Nat.reduceAdd, Nat.reduceSub, List.replicate_succ, List.replicate_zero])
local macro_rules | `(tactic| row_cond d) => `(tactic| first | row_cond dE | row_cond dV | row_cond dO | row_cond dT | row_cond dS | row_cond dI | row_cond dmore | row_cond dspec | row_cond dQ)
local macro_rules | `(tactic| row_cond dn) => `(tactic| first | row_cond dE | row_cond dV | row_cond dO | row_cond dT | row_cond dSn | row_cond dI | row_cond dmore | row_cond dspec | row_cond dQ)
local macro_rules | `(tactic| row_cond gon) => `(tactic| repeat' (row_cond dn))
local macro_rules | `(tactic| row_cond go) => `(tactic| repeat' (row_cond d))
/- the later parts of the layer -/
local macro_rules | `(tactic| row_cond dE) => `(tactic| first
  | ((with_reducible refine' we_sortedSet ?a ?b ?c ?d ?e ?_); (case a => assumption); (case b => assumption); (case c => assumption); (case d => rfl); (case e => rfl))
  | ((with_reducible refine' we_get2 ?a ?b ?_); (case a => assumption); (case b => exact ⟨rfl, rfl, rfl, rfl⟩))
  | ((with_reducible refine' we_get1 ?a ?b ?_); (case a => assumption); (case b => exact ⟨rfl, rfl, rfl, rfl⟩))
  | ((with_reducible refine' we_pop1 ?b ?_); (case b => exact ⟨rfl, rfl, rfl, rfl⟩)))
local macro_rules | `(tactic| row_cond dO) => `(tactic| first
  | ((with_reducible refine' wc_sorted ?a ?b ?c ?_); (case a => assumption); (case b => decide); (case c => first | exact fun _ _ => trivial | assumption))
  | ((with_reducible refine' wsorted_go ?a ?_); (case a => first | assumption | omega))
  | ((with_reducible refine' wo_inD ?a ?b ?_); (case a => assumption); (case b => decide))
  | ((with_reducible refine' wo_ninD ?a ?b ?_); (case a => assumption); (case b => decide))
  | (with_reducible refine getD_K ?_)
  | (with_reducible refine getD_T ?_)
  | ((with_reducible refine' wsl_txt ?a ?_); (case a => row_cond dsz))
  | ((with_reducible refine' wx_strN ?a ?b ?c ?_); (case a => row_cond dsz); (case b => omega); (case c => first | omega | (simp only [PySem.Str.length]; omega)))
  | (with_reducible refine ⟨isDD_K, ?_⟩)
  | (with_reducible refine ⟨isDD_T, ?_⟩))
local macro_rules | `(tactic| row_cond dO) => `(tactic| first
  | ((with_reducible refine' wm_appendM ?n ?_); (case n => row_cond dsz)))
local macro_rules | `(tactic| row_cond dE) => `(tactic| ((with_reducible refine' we_con ?c ?_); (case c => assumption)))
local macro_rules | `(tactic| row_cond dV) => `(tactic| first
  | (with_reducible refine wk_nil ?_)
  | (with_reducible refine wk_cons ?_)
  | (with_reducible refine ⟨rfl, rfl, ?_⟩))
local macro_rules | `(tactic| row_cond dI) => `(tactic| ((with_reducible refine' wi_range3 ?a ?b ?c ?d ?_); (case a => exact BltAt.gl (by assumption)); (case b => exact BltAt.mg (by assumption)); (case c => rfl); (case d => rfl)))
local macro_rules | `(tactic| row_cond dO) => `(tactic| first
  | ((with_reducible refine' wc_lenS ?a ?_); (case a => row_cond dsz)))
local macro_rules | `(tactic| row_cond dO) => `(tactic| first
  | ((with_reducible refine' wo_addS ?a ?_); (case a => row_cond dsz)))
local macro_rules | `(tactic| row_cond dO) => `(tactic| first
  | ((with_reducible refine' wo_addS2 ?a ?_); (case a => first | decide | omega))
  | ((with_reducible refine' wsl_txt2 ?a ?_); (case a => first | decide | omega))
  | ((with_reducible refine' wc_lenS2 ?a ?_); (case a => first | decide | omega)))
local macro_rules | `(tactic| row_cond dE) => `(tactic| first
  | ((with_reducible refine we_bm (T := "str") PySem.F.plainAttrs_str PySem.F.slot_str_index PySem.F.type_str_index ?a ?b ?c ?d ?e ?_); (case a => rfl); (case b => rfl); (case c => rfl); (case d => rfl); (case e => rfl))
  | ((with_reducible refine we_bm (T := "str") PySem.F.plainAttrs_str PySem.F.slot_str_join PySem.F.type_str_join ?a ?b ?c ?d ?e ?_); (case a => rfl); (case b => rfl); (case c => rfl); (case d => rfl); (case e => rfl))
  | ((with_reducible refine we_bm (T := "str") PySem.F.plainAttrs_str PySem.F.slot_str_startswith PySem.F.type_str_startswith ?a ?b ?c ?d ?e ?_); (case a => rfl); (case b => rfl); (case c => rfl); (case d => rfl); (case e => rfl)))
local macro_rules | `(tactic| row_cond dO) => `(tactic| first
  | (with_reducible refine wm_starts ?_))
local macro_rules | `(tactic| row_cond dret) => `(tactic| (with_reducible refine ws_ret ?_))
local macro_rules | `(tactic| row_cond dO) => `(tactic| first
  | ((with_reducible refine' wx_asK ?a ?b ?_); (case a => assumption); (case b => assumption))
  | ((with_reducible refine' wo_inAsK ?a ?_); (case a => assumption))
  | ((with_reducible refine' wo_ninAsK ?a ?_); (case a => assumption))
  | ((with_reducible refine' wset_asK ?a ?b ?_); (case a => assumption); (case b => row_cond dsz))
  | (with_reducible refine getD_asK ?_)
  | ((with_reducible refine' popD_asK ?b ?_); (case b => assumption))
  | ((with_reducible refine' wx_asT ?a ?b ?_); (case a => assumption); (case b => assumption))
  | ((with_reducible refine' wo_inAsT ?a ?_); (case a => assumption))
  | ((with_reducible refine' wo_ninAsT ?a ?_); (case a => assumption))
  | ((with_reducible refine' wset_asT ?a ?b ?_); (case a => assumption); (case b => row_cond dsz))
  | (with_reducible refine getD_asT ?_)
  | ((with_reducible refine' wc_sortedAs ?a ?_); (case a => assumption)))
local macro_rules | `(tactic| row_cond dO) => `(tactic| first
  | (with_reducible refine wc_lenAsK ?_)
  | (with_reducible refine wc_lenAsT ?_))
local macro_rules | `(tactic| row_cond dI) => `(tactic| first
  | (with_reducible refine wiv_asK ?_))
local macro_rules | `(tactic| row_cond dV) => `(tactic| (with_reducible refine star_go ?_))
local macro_rules | `(tactic| row_cond dO) => `(tactic| first
  | ((with_reducible refine' wc_sortedAsT ?a ?b ?_); (case a => assumption); (case b => assumption))
  | ((with_reducible refine' wm_insert ?a ?b ?c ?_); (case a => row_cond dsz); (case b => omega); (case c => omega)))
local macro_rules | `(tactic| row_cond dE) => `(tactic| first
  | ((with_reducible refine we_bm (T := "list") PySem.F.plainAttrs_list PySem.F.slot_list_insert PySem.F.type_list_insert ?a ?b ?c ?d ?e ?_); (case a => rfl); (case b => rfl); (case c => rfl); (case d => rfl); (case e => rfl)))

local macro_rules | `(tactic| row_cond dspec) => `(tactic| first
  | ((with_reducible refine' sp_law_next_go ?a ?b ?c ?_); (case a => assumption); (case b => first | decide | omega | (split <;> omega)); (case c => first | decide | omega | (split <;> omega)))
  | (with_reducible refine sp_law_mix_go ?_))
local macro_rules | `(tactic| row_cond dmore) => `(tactic| first
  | (with_reducible refine ⟨_, [], rfl, ?_⟩))

/-! ### the law's second half -/
def listOf : D → D
  | .tup xs => .lst xs
  | d => d
theorem wss_fz {X : Cx} {F : Fr} {sts : List Stmt} {sl sl' : List (Option D)} {M M' R : Mem} {O : Out} {ds : List D} {k : Nat} (p : Addr) [At M p (.lst ds) k] [DelM M k M'] [FzS sl p (.lst ds) sl'] (h : WSs X F sts ⟨sl', M', R⟩ O) : WSs X F sts ⟨sl, M, R⟩ O := fun G σ H hh E hE => by
  obtain ⟨Γ', G', d', e, s, hh', _⟩ := fz_lst (F := F) (sl := sl) (M := M) (R := R) (p := p) (Q := fun _ Γ => Γ = ⟨sl', M', R⟩) rfl G σ H (.ref p) hh (.ref p)
  subst e
  exact h G' σ H hh' E (hE.later s)
theorem sp_lred_go {dl dc dg dk : D} {L : Lg} {C G K : List Str} {R : Mem} {Q : D → Mem → Prop} [s1 : SeeL [] R dl (L.map encRow)] [s2 : SeeQ [] R dc (C.map D.str)] [s3 : SeeQ [] R dg (G.map D.str)] [s4 : SeeQ [] R dk (K.map D.str)] (hL : LgOk L) (q : Q (.tup [.int (redSure L C G K), .lst ((srtL (tab (redRows L C G K))).map encRow)]) []) : sp_law_reduced [dl, dc, dg, dk] [] R Q := ⟨dl, dc, dg, dk, L, C, G, K, rfl, rfl, s1.see, s2.see, s3.see, s4.see, hL, q⟩
theorem sp_red_go {dl dc dg dk : D} {L : Lg} {C G K C' G' K' : List Str} {R : Mem} {Q : D → Mem → Prop} [s1 : SeeL [] R dl (L.map encRow)] [s2 : SeeQ [] R dc (C'.map D.str)] [s3 : SeeQ [] R dg (G'.map D.str)] [s4 : SeeQ [] R dk (K'.map D.str)] (hL : LgOk L) (hC : ∀ n, n ∈ C' ↔ n ∈ C) (hG : ∀ n, n ∈ G' ↔ n ∈ G) (hK : ∀ n, n ∈ K' ↔ n ∈ K) (q : ∀ p, Q (.tup [.int (redSure L C G K), .ref p]) [(p, .lst ((srtL (tab (redRows L C G K))).map encRow))]) : sp_reduced [dl, dc, dg, dk] [] R Q := by
  obtain ⟨e1, e2⟩ := red_congr (L := L) hC hG hK
  refine ⟨dl, dc, dg, dk, L, C', G', K', rfl, rfl, s1.see, s2.see, s3.see, s4.see, hL, ?_⟩
  rw [e1, e2]; exact q
theorem sp_lfr_go {dl dn : D} {L : Lg} {xs : List Str} {R : Mem} {Q : D → Mem → Prop} [s1 : SeeL [] R dl (L.map encRow)] [s2 : SeeQ [] R dn (xs.map D.str)] (hL : LgOk L) (q : Q (.int (sumIf (fun l => l.all fun n => decide (n ∈ xs)) L)) []) : sp_law_freed [dl, dn] [] R Q := ⟨dl, dn, L, xs, rfl, rfl, s1.see, s2.see, hL.1, fun r h => (hL.2 r h).2.1, q⟩
theorem sp_fr_go {dl dn : D} {L : Lg} {xs : List Str} {R : Mem} {Q : D → Mem → Prop} [s1 : SeeL [] R dl (L.map encRow)] [s2 : SeeQ [] R dn (xs.map D.str)] (hL : LgOk L) (hx : xs.length ≤ 4000) (q : Q (.int (sumIf (fun l => l.all fun n => decide (n ∈ xs)) L)) []) : sp_freed [dl, dn] [] R Q := ⟨dl, dn, L, xs, rfl, rfl, s1.see, s2.see, hL.1, hx, fun r h => (hL.2 r h).2.1, q⟩
theorem isd_lot {m : Nat} (l : Lot) (h : l.length ≤ 4000) : Isd (m + 1) (encLot l) := ⟨by rw [List.length_map]; omega, fun d hd => by
  obtain ⟨n, _, rfl⟩ := List.mem_map.mp hd
  exact isd_str _ _⟩
theorem isd_led {L : Lg} (h : LgOk L) : Isd 3 (.lst (L.map encRow)) := ⟨by rw [List.length_map]; have := h.1; omega, fun d hd => by
  obtain ⟨r, hr, rfl⟩ := List.mem_map.mp hd
  exact isd_two (isd_lot r.1 (h.2 r hr).2.1) (isd_int _ _)⟩
theorem isd_names {m : Nat} (l : List Str) (h : l.length ≤ 4000) : Isd (m + 1) (.lst (l.map D.str)) := ⟨by rw [List.length_map]; omega, fun d hd => by
  obtain ⟨n, _, rfl⟩ := List.mem_map.mp hd
  exact isd_str _ _⟩
theorem sp_is_red {d : D} {s t : Int} {T T' : Lg} {R : Mem} {Q : D → Mem → Prop} [s1 : SeeL [] R d (T.map encRow)] (he : s = t) (hT : T = T') (hL : LgOk T) (q : Q (.bl true) []) : sp_law_is 4 [.tup [.int s, d], .tup [.int t, .lst (T'.map encRow)]] [] R Q := by
  subst he; subst hT
  exact ⟨_, _, .tup [.int s, .lst (T.map encRow)], rfl, rfl, isv_two (.int _ _) (isv_lst (isd_led hL)), isv_two (.int _ _) (isv_self (isd_led hL)), q⟩
theorem sp_is_int {s t : Int} {R : Mem} {Q : D → Mem → Prop} (he : s = t) (q : Q (.bl true) []) : sp_law_is 4 [.int s, .int t] [] R Q := by
  subst he
  exact ⟨_, _, .int s, rfl, rfl, .int _ _, .int _ _, q⟩
local macro_rules | `(tactic| row_cond dspec) => `(tactic| first
  | ((with_reducible refine' sp_lred_go ?a ?_); (case a => assumption))
  | ((with_reducible refine' sp_red_go ?a ?b ?c ?d ?_); (case a => assumption); (case b => first | assumption | exact fun _ => Iff.rfl); (case c => first | assumption | exact fun _ => Iff.rfl); (case d => first | assumption | exact fun _ => Iff.rfl))
  | ((with_reducible refine' sp_lfr_go ?a ?_); (case a => assumption))
  | ((with_reducible refine' sp_fr_go ?a ?b ?_); (case a => assumption); (case b => first | omega | (simp only [List.length_append]; omega)))
  | ((with_reducible refine' sp_is_red ?a ?b ?c ?_); (case a => first | rfl | assumption); (case b => first | rfl | assumption); (case c => assumption))
  | ((with_reducible refine' sp_is_int ?a ?_); (case a => first | rfl | assumption)))
theorem law_tail {P : Program} {w : World} {K : PySem.W.Frag} {mg : Str → Option Value} {base : Heap} (T : Tx mg) (c_law_names : Cal P w K mg base 3 "_law_names" sp_law_names) (c_law_next : Cal P w K mg base 2 "_law_next" sp_law_next) (c_law_ledger : Cal P w K mg base 4 "_law_ledger" sp_law_ledger) (c_law_lots : Cal P w K mg base 3 "_law_lots" sp_law_lots) (c_law_reduced : Cal P w K mg base 1 "_law_reduced" sp_law_reduced) (c_reduced : Cal P w K mg base 3 "reduced" sp_reduced) (c_law_turned : Cal P w K mg base 3 "_law_turned" sp_law_turned) (c_law_is : Cal P w K mg base 5 "_law_is" (sp_law_is 4)) (c_law_freed : Cal P w K mg base 1 "_law_freed" sp_law_freed) (c_freed : Cal P w K mg base 1 "freed" sp_freed) (X : Cx) (F : Fr) (hX : In X P w K mg base 5) (nm : Nm X N_law (defScope s_law))
    (p pp : Addr) (st : D) (m v : Int) (ws N O' G K' F' gm km ns gs ks : List Str) (L : Lg) (Ls : List (List Str)) (a b : Option D) (hs : DrawSt st) (hL : LgOk L) (P' : Part N G K' F' gm km) (hns : ns.Perm N) (hgs : gs.Perm G) (hks : ks.Perm K') (hLs : Ls.length ≤ 1000) (hLs2 : ∀ l ∈ Ls, l.length ≤ 400 ∧ ∀ n ∈ l, n ∈ F') (hN25 : N.length ≤ 25) (hGl : G.length ≤ 25) (hKl : K'.length ≤ 25) (hFl : F'.length ≤ 25) (hgml : gm.length ≤ 25) (hkml : km.length ≤ 25) :
    WSs X F ((defBody s_law).drop 17) ⟨[none, some (.ref p), some (.int m), some (.lst (ws.map D.str)), some (.lst (N.map D.str)), some (.lst (O'.map D.str)), some (.int v), some (.lst (L.map encRow)), some (.lst (G.map D.str)), some (.lst (K'.map D.str)), some (.lst (F'.map D.str)), a, b, some (.lst (gm.map D.str)), some (.lst (km.map D.str)), some (.lst (Ls.map encL)), some (.ref pp), none, none, none, none, none, none, none, none], [(pp, .lst [.lst (L.map encRow), .lst (ns.map D.str), .lst (gs.map D.str), .lst (ks.map D.str)]), (p, st)], []⟩ (outD fun d _ => d = .bl true) := by
  have hst := hX.std
  have n_script : NameAt X 0 "script" := nm.name rfl (.inl rfl) (by decide) (by decide)
  have s_script : StoreAt X 0 "script" := nm.store rfl (.inl rfl)
  have n_state : NameAt X 1 "state" := nm.name rfl (.inr rfl) (by decide) (by decide)
  have s_state : StoreAt X 1 "state" := nm.store rfl (.inr rfl)
  have n_many : NameAt X 2 "many" := nm.name rfl (.inl rfl) (by decide) (by decide)
  have s_many : StoreAt X 2 "many" := nm.store rfl (.inl rfl)
  have n_words : NameAt X 3 "words" := nm.name rfl (.inl rfl) (by decide) (by decide)
  have s_words : StoreAt X 3 "words" := nm.store rfl (.inl rfl)
  have n_names : NameAt X 4 "names" := nm.name rfl (.inl rfl) (by decide) (by decide)
  have s_names : StoreAt X 4 "names" := nm.store rfl (.inl rfl)
  have n_others : NameAt X 5 "others" := nm.name rfl (.inl rfl) (by decide) (by decide)
  have s_others : StoreAt X 5 "others" := nm.store rfl (.inl rfl)
  have n_rows : NameAt X 6 "rows" := nm.name rfl (.inl rfl) (by decide) (by decide)
  have s_rows : StoreAt X 6 "rows" := nm.store rfl (.inl rfl)
  have n_ledger : NameAt X 7 "ledger" := nm.name rfl (.inl rfl) (by decide) (by decide)
  have s_ledger : StoreAt X 7 "ledger" := nm.store rfl (.inl rfl)
  have n_gone : NameAt X 8 "gone" := nm.name rfl (.inl rfl) (by decide) (by decide)
  have s_gone : StoreAt X 8 "gone" := nm.store rfl (.inl rfl)
  have n_kept : NameAt X 9 "kept" := nm.name rfl (.inl rfl) (by decide) (by decide)
  have s_kept : StoreAt X 9 "kept" := nm.store rfl (.inl rfl)
  have n_left : NameAt X 10 "left" := nm.name rfl (.inl rfl) (by decide) (by decide)
  have s_left : StoreAt X 10 "left" := nm.store rfl (.inl rfl)
  have n_name : NameAt X 11 "name" := nm.name rfl (.inl rfl) (by decide) (by decide)
  have s_name : StoreAt X 11 "name" := nm.store rfl (.inl rfl)
  have n_way : NameAt X 12 "way" := nm.name rfl (.inl rfl) (by decide) (by decide)
  have s_way : StoreAt X 12 "way" := nm.store rfl (.inl rfl)
  have n_gone_more : NameAt X 13 "gone_more" := nm.name rfl (.inr rfl) (by decide) (by decide)
  have s_gone_more : StoreAt X 13 "gone_more" := nm.store rfl (.inr rfl)
  have n_kept_more : NameAt X 14 "kept_more" := nm.name rfl (.inl rfl) (by decide) (by decide)
  have s_kept_more : StoreAt X 14 "kept_more" := nm.store rfl (.inl rfl)
  have n_lots : NameAt X 15 "lots" := nm.name rfl (.inl rfl) (by decide) (by decide)
  have s_lots : StoreAt X 15 "lots" := nm.store rfl (.inl rfl)
  have n_passed : NameAt X 16 "passed" := nm.name rfl (.inl rfl) (by decide) (by decide)
  have s_passed : StoreAt X 16 "passed" := nm.store rfl (.inl rfl)
  have n_copies : NameAt X 17 "copies" := nm.name rfl (.inl rfl) (by decide) (by decide)
  have s_copies : StoreAt X 17 "copies" := nm.store rfl (.inl rfl)
  have n_due : NameAt X 18 "due" := nm.name rfl (.inl rfl) (by decide) (by decide)
  have s_due : StoreAt X 18 "due" := nm.store rfl (.inl rfl)
  have n_inner : NameAt X 19 "inner" := nm.name rfl (.inl rfl) (by decide) (by decide)
  have s_inner : StoreAt X 19 "inner" := nm.store rfl (.inl rfl)
  have n_told : NameAt X 20 "told" := nm.name rfl (.inl rfl) (by decide) (by decide)
  have s_told : StoreAt X 20 "told" := nm.store rfl (.inl rfl)
  have n_shown : NameAt X 21 "shown" := nm.name rfl (.inl rfl) (by decide) (by decide)
  have s_shown : StoreAt X 21 "shown" := nm.store rfl (.inl rfl)
  have n_whole : NameAt X 22 "whole" := nm.name rfl (.inl rfl) (by decide) (by decide)
  have s_whole : StoreAt X 22 "whole" := nm.store rfl (.inl rfl)
  have n_lot : NameAt X 23 "lot" := nm.name rfl (.inl rfl) (by decide) (by decide)
  have s_lot : StoreAt X 23 "lot" := nm.store rfl (.inl rfl)
  have n_part : NameAt X 24 "part" := nm.name rfl (.inl rfl) (by decide) (by decide)
  have s_part : StoreAt X 24 "part" := nm.store rfl (.inl rfl)
  have g_law_start : Gl X "_law_start" := nm.gl rfl
  have g_law_next : Gl X "_law_next" := nm.gl rfl
  have g_law_names : Gl X "_law_names" := nm.gl rfl
  have b_sorted : BltAt X "sorted" (.builtin "sorted") := nm.blt hX rfl T.z_sorted bo_sorted (by decide) (by decide)
  have g_law_ledger : Gl X "_law_ledger" := nm.gl rfl
  have g_law_lots : Gl X "_law_lots" := nm.gl rfl
  have b_list : BltAt X "list" (.type "list") := nm.blt hX rfl T.z_list bo_list (by decide) (by decide)
  have g_law_turned : Gl X "_law_turned" := nm.gl rfl
  have b_tuple : BltAt X "tuple" (.type "tuple") := nm.blt hX rfl T.z_tuple bo_tuple (by decide) (by decide)
  have g_law_reduced : Gl X "_law_reduced" := nm.gl rfl
  have g_reduced : Gl X "reduced" := nm.gl rfl
  have g_law_is : Gl X "_law_is" := nm.gl rfl
  have g_law_freed : Gl X "_law_freed" := nm.gl rfl
  have g_freed : Gl X "freed" := nm.gl rfl
  have hnl := hns.length_eq
  have hgl := hgs.length_eq
  have hkl := hks.length_eq
  refine wss_cons ?_
  refine ws_mid (fun Γ => ∃ (st : D) (pp : Addr) (d1 d2 d3 : D), Γ = ⟨[none, some (.ref p), some (.int m), some (.lst (ws.map D.str)), some (.lst (N.map D.str)), some (.lst (O'.map D.str)), some (.int v), some (.lst (L.map encRow)), some (.lst (G.map D.str)), some (.lst (K'.map D.str)), some (.lst (F'.map D.str)), a, b, some (.lst (gm.map D.str)), some (.lst (km.map D.str)), some (.lst (Ls.map encL)), some (.ref pp), none, none, none, none, none, none, none, none], [(pp, .lst [.lst (L.map encRow), d1, d2, d3])], []⟩ ∧ (d1 = .lst (ns.map D.str) ∨ d1 = .tup (ns.map D.str)) ∧ (d2 = .lst (gs.map D.str) ∨ d2 = .tup (gs.map D.str)) ∧ (d3 = .lst (ks.map D.str) ∨ d3 = .tup (ks.map D.str))) ?_ ?_
  · refine ws_wk ?_
    row_cond go
    · exact ⟨_, wk_sub (.cons₂ _ (.cons _ (.cons _ .slnil))), st, _, _, _, _, rfl, .inr rfl, .inr rfl, .inr rfl⟩
    · exact ⟨_, wk_sub (.cons₂ _ (.cons _ .slnil)), st, _, _, _, _, rfl, .inl rfl, .inl rfl, .inl rfl⟩
  clear pp hs st
  rintro Γ ⟨st, pp, d1, d2, d3, rfl, h1, h2, h3⟩
  haveI i1 : SeeQ [] [] d1 (ns.map D.str) := ⟨by rcases h1 with rfl | rfl; exact .inl (.self _); exact .inr (.self _)⟩
  haveI i2 : SeeQ [] [] d2 (gs.map D.str) := ⟨by rcases h2 with rfl | rfl; exact .inl (.self _); exact .inr (.self _)⟩
  haveI i3 : SeeQ [] [] d3 (ks.map D.str) := ⟨by rcases h3 with rfl | rfl; exact .inl (.self _); exact .inr (.self _)⟩
  have e1 : listOf d1 = .lst (ns.map D.str) := by rcases h1 with rfl | rfl <;> rfl
  have e2 : listOf d2 = .lst (gs.map D.str) := by rcases h2 with rfl | rfl <;> rfl
  have e3 : listOf d3 = .lst (ks.map D.str) := by rcases h3 with rfl | rfl <;> rfl
  have hCm : ∀ n, n ∈ ns ↔ n ∈ N := fun n => hns.mem_iff
  have hGm : ∀ n, n ∈ gs ↔ n ∈ G := fun n => hgs.mem_iff
  have hKm : ∀ n, n ∈ ks ↔ n ∈ K' := fun n => hks.mem_iff
  have hT1 : LgOk (srtL (tab (redRows L N G K'))) := lgOk_T (redRows_ok hL N G K').1
  have hT2 : LgOk (srtL (tab (redRows (srtL (tab (redRows L N G K'))) F' gm km))) := lgOk_T (redRows_ok hT1 F' gm km).1
  have hw1 := whole_sure P' L
  have hw2 := whole_tab P' L
  have hfm : ∀ lot ∈ Ls, sumIf (fun l => l.all fun n => decide (n ∈ G ++ lot)) L = redSure L N G K' + sumIf (fun l => l.all fun n => decide (n ∈ lot)) (srtL (tab (redRows L N G K'))) := fun lot h => freed_more P' L (hLs2 lot h).2
  refine wss_cons ?_
  refine ws_mid (fun Γ => ∃ q, Γ = ⟨[none, some (.ref p), some (.int m), some (.lst (ws.map D.str)), some (.lst (N.map D.str)), some (.lst (O'.map D.str)), some (.int v), some (.lst (L.map encRow)), some (.lst (G.map D.str)), some (.lst (K'.map D.str)), some (.lst (F'.map D.str)), a, b, some (.lst (gm.map D.str)), some (.lst (km.map D.str)), some (.lst (Ls.map encL)), some (.ref pp), some (.ref q), none, none, none, none, none, none, none], [(q, .lst ([.lst (L.map encRow), d1, d2, d3].map listOf)), (pp, .lst [.lst (L.map encRow), d1, d2, d3])], []⟩) ?_ ?_
  · refine ws_setLc' (i := 17) hst (own := [("part", 24)]) (by rw [nm.N]; rfl) (by rw [nm.sc]; rfl) (nm.swaps (by decide +kernel)) (nm.blk (by decide +kernel)) (fun _ => rfl) rfl ?_
    row_cond go
    refine lc_map (f := fun d : D => d) (xs := [.lst (L.map encRow), d1, d2, d3]) hX (by rw [nm.N]; rfl) (.inl rfl) listOf (fun _ _ => (inferInstance : SeeL _ _ _ _).see) (by simp) (fun c j y acc hy => put_go fun X' hb => ?_) (fun c => ?_)
    ·
      have hy4 := List.mem_of_getElem? hy
      simp only [List.mem_cons, List.not_mem_nil, or_false] at hy4
      have hX_X' := hb.inn hX
      have hst_X' := hX_X'.std
      have n_part_X' : NameAt X' 24 "part" := hb.name (by rw [nm.N]; rfl) (by first | exact .inl rfl | exact .inr (.inl rfl) | exact .inr (.inr rfl)) (by decide) (by decide)
      have s_part_X' : StoreAt X' 24 "part" := hb.store (by rw [nm.N]; rfl) (by first | exact .inl rfl | exact .inr rfl)
      have b_list_X' : BltAt X' "list" (.type "list") := hb.blt' hX rfl T.z_list bo_list (by decide) (by decide)
      rcases hy4 with e | e | e | e
      · rw [e]
        row_cond go
        exact ⟨rfl, _, rfl⟩
      · rw [e]
        row_cond go
        exact ⟨e1.symm, _, rfl⟩
      · rw [e]
        row_cond go
        exact ⟨e2.symm, _, rfl⟩
      · rw [e]
        row_cond go
        exact ⟨e3.symm, _, rfl⟩
    · row_cond go
      exact ⟨_, rfl⟩
  rintro Γ ⟨q, rfl⟩
  row_cond gon
  rename_i pt
  refine ws_mid (fun Γ => Γ = ⟨[none, some (.ref p), some (.int m), some (.lst (ws.map D.str)), some (.lst (N.map D.str)), some (.lst (O'.map D.str)), some (.int v), some (.lst (L.map encRow)), some (.lst (G.map D.str)), some (.lst (K'.map D.str)), some (.lst (F'.map D.str)), a, b, some (.lst (gm.map D.str)), some (.lst (km.map D.str)), some (.lst (Ls.map encL)), some (.ref pp), some (.ref q), some (.tup [.int (redSure L N G K'), .lst ((srtL (tab (redRows L N G K'))).map encRow)]), some (.tup [.int (redSure (srtL (tab (redRows L N G K'))) F' gm km), .lst ((srtL (tab (redRows (srtL (tab (redRows L N G K'))) F' gm km))).map encRow)]), some (.tup [.int (redSure L N G K'), .ref pt]), none, none, none, none], [(pt, .lst ((srtL (tab (redRows L N G K'))).map encRow))], []⟩) ?_ ?_
  · refine ws_wk ?_
    row_cond go
    refine we_lc' hst (own := [("part", 24)]) (nm.blk (by decide +kernel)) (fun _ => rfl) rfl ?_
    row_cond go
    refine lc_map (f := fun d : D => d) (xs := [.lst (L.map encRow), d1, d2, d3]) hX (by rw [nm.N]; rfl) (.inl rfl) listOf (fun _ _ => (inferInstance : SeeL _ _ _ _).see) (by simp) (fun c j y acc hy => put_go fun X' hb => ?_) (fun c => ?_)
    ·
      have hy4 := List.mem_of_getElem? hy
      simp only [List.mem_cons, List.not_mem_nil, or_false] at hy4
      have hX_X' := hb.inn hX
      have hst_X' := hX_X'.std
      have n_part_X' : NameAt X' 24 "part" := hb.name (by rw [nm.N]; rfl) (by first | exact .inl rfl | exact .inr (.inl rfl) | exact .inr (.inr rfl)) (by decide) (by decide)
      have s_part_X' : StoreAt X' 24 "part" := hb.store (by rw [nm.N]; rfl) (by first | exact .inl rfl | exact .inr rfl)
      have b_list_X' : BltAt X' "list" (.type "list") := hb.blt' hX rfl T.z_list bo_list (by decide) (by decide)
      rcases hy4 with e | e | e | e
      · rw [e]
        row_cond go
        exact ⟨rfl, _, rfl⟩
      · rw [e]
        row_cond go
        exact ⟨e1.symm, _, rfl⟩
      · rw [e]
        row_cond go
        exact ⟨e2.symm, _, rfl⟩
      · rw [e]
        row_cond go
        exact ⟨e3.symm, _, rfl⟩
    · row_cond go
      refine wo_neW (n := 4) hst rfl ?_ (by decide) ?_
      · refine ⟨by simp, fun d hd => ?_⟩
        simp only [List.map_cons, List.map_nil, List.mem_cons, List.not_mem_nil, or_false] at hd
        rcases hd with e | e | e | e
        · rw [e]; exact isd_led hL
        · rw [e, e1]; exact isd_names _ (by omega)
        · rw [e, e2]; exact isd_names _ (by omega)
        · rw [e, e3]; exact isd_names _ (by omega)
      row_cond go
      exact ⟨_, wk_sub (.cons _ (.cons₂ _ (.cons _ (.cons _ .slnil)))), rfl⟩
  intro Γ e
  subst e
  have hT1l := hT1.1
  row_cond gon
  refine ws_mid (fun Γ => Γ = ⟨[none, some (.ref p), some (.int m), some (.lst (ws.map D.str)), some (.lst (N.map D.str)), some (.lst (O'.map D.str)), some (.int v), some (.lst (L.map encRow)), some (.lst (G.map D.str)), some (.lst (K'.map D.str)), some (.lst (F'.map D.str)), a, b, some (.lst (gm.map D.str)), some (.lst (km.map D.str)), some (.lst (Ls.map encL)), some (.ref pp), some (.ref q), some (.tup [.int (redSure L N G K'), .lst ((srtL (tab (redRows L N G K'))).map encRow)]), some (.tup [.int (redSure (srtL (tab (redRows L N G K'))) F' gm km), .lst ((srtL (tab (redRows (srtL (tab (redRows L N G K'))) F' gm km))).map encRow)]), some (.tup [.int (redSure L N G K'), .ref pt]), some (.ref pt), none, none, none], [], []⟩) ?_ ?_
  · refine ws_wk ?_
    row_cond go
    exact ⟨_, wk_none, rfl⟩
  intro Γ e
  subst e
  have hT3 : LgOk (srtL (tab (redRows L N (G ++ gm) (K' ++ km)))) := lgOk_T (redRows_ok hL N (G ++ gm) (K' ++ km)).1
  row_cond gon
  rename_i pw
  refine ws_mid (fun Γ => Γ = ⟨[none, some (.ref p), some (.int m), some (.lst (ws.map D.str)), some (.lst (N.map D.str)), some (.lst (O'.map D.str)), some (.int v), some (.lst (L.map encRow)), some (.lst (G.map D.str)), some (.lst (K'.map D.str)), some (.lst (F'.map D.str)), a, b, some (.lst (gm.map D.str)), some (.lst (km.map D.str)), some (.lst (Ls.map encL)), some (.ref pp), some (.ref q), some (.tup [.int (redSure L N G K'), .lst ((srtL (tab (redRows L N G K'))).map encRow)]), some (.tup [.int (redSure (srtL (tab (redRows L N G K'))) F' gm km), .lst ((srtL (tab (redRows (srtL (tab (redRows L N G K'))) F' gm km))).map encRow)]), some (.tup [.int (redSure L N G K'), .ref pt]), some (.ref pt), some (.tup [.int (redSure L N (G ++ gm) (K' ++ km)), .ref pw]), none, none], [], []⟩) ?_ ?_
  · refine ws_wk ?_
    row_cond go
    exact ⟨_, wk_none, rfl⟩
  intro Γ e
  subst e
  refine wss_cons ?_
  refine ws_mid (fun Γ => Γ = ⟨[none, some (.ref p), some (.int m), some (.lst (ws.map D.str)), some (.lst (N.map D.str)), some (.lst (O'.map D.str)), some (.int v), some (.lst (L.map encRow)), some (.lst (G.map D.str)), some (.lst (K'.map D.str)), some (.lst (F'.map D.str)), a, b, some (.lst (gm.map D.str)), some (.lst (km.map D.str)), some (.lst (Ls.map encL)), some (.ref pp), some (.ref q), some (.tup [.int (redSure L N G K'), .lst ((srtL (tab (redRows L N G K'))).map encRow)]), some (.tup [.int (redSure (srtL (tab (redRows L N G K'))) F' gm km), .lst ((srtL (tab (redRows (srtL (tab (redRows L N G K'))) F' gm km))).map encRow)]), some (.tup [.int (redSure L N G K'), .ref pt]), some (.ref pt), some (.tup [.int (redSure L N (G ++ gm) (K' ++ km)), .ref pw]), none, none], [], []⟩) ?_ ?_
  · refine ws_wk ?_
    row_cond go
    exact ⟨_, wk_none, rfl⟩
  intro Γ e
  subst e
  refine wss_cons ?_
  refine ws_forW hst (fun _ => rfl) ?_
  row_cond go
  refine ⟨fun i Γ => ∃ c d, Γ = ⟨[none, some (.ref p), some (.int m), some (.lst (ws.map D.str)), some (.lst (N.map D.str)), some (.lst (O'.map D.str)), some (.int v), some (.lst (L.map encRow)), some (.lst (G.map D.str)), some (.lst (K'.map D.str)), some (.lst (F'.map D.str)), a, b, some (.lst (gm.map D.str)), some (.lst (km.map D.str)), some (.lst (Ls.map encL)), some (.ref pp), some (.ref q), some (.tup [.int (redSure L N G K'), .lst ((srtL (tab (redRows L N G K'))).map encRow)]), some (.tup [.int (redSure (srtL (tab (redRows L N G K'))) F' gm km), .lst ((srtL (tab (redRows (srtL (tab (redRows L N G K'))) F' gm km))).map encRow)]), some (.tup [.int (redSure L N G K'), .ref pt]), some (.ref pt), some (.tup [.int (redSure L N (G ++ gm) (K' ++ km)), .ref pw]), c, d], [], []⟩, ⟨_, _, rfl⟩, ?_, fun i x Γ hx hW => ?_, fun Γ hW => ?_⟩
  · rintro i Γ ⟨c, d, rfl⟩
    exact .self _
  · obtain ⟨c, d, rfl⟩ := hW
    rw [List.getElem?_map] at hx
    obtain ⟨lot, hl, rfl⟩ := Option.map_eq_some_iff.mp hx
    have hlm := List.mem_of_getElem? hl
    have hll := (hLs2 lot hlm).1
    have hf := hfm lot hlm
    row_cond go
    exact ⟨_, wk_none, _, _, rfl⟩
  · obtain ⟨c, d, rfl⟩ := hW
    row_cond go
    refine rt0 (P := fun d _ => d = .bl true) ?_
    rfl

end K50


namespace K50
open PySem PySem.Spec PyProof.Rows L2 DL
local macro_rules | `(tactic| row_cond dcall) => `(tactic| first
  | ((with_reducible refine' we_callS (x := "make_lot") ?c ?x ?j ?g ?d ?e ?_); (case c => assumption); (case x => assumption); (case j => first | decide | exact Nat.le_refl _ | omega); (case g => assumption); (case d => decide); (case e => rfl))
  | ((with_reducible refine' we_call (x := "make_ledger") ?c ?x ?j ?g ?d ?e ?p ?_); (case c => assumption); (case x => assumption); (case j => first | decide | exact Nat.le_refl _ | omega); (case g => assumption); (case d => decide); (case e => rfl); (case p => rfl))
  | ((with_reducible refine' we_call (x := "freed") ?c ?x ?j ?g ?d ?e ?p ?_); (case c => assumption); (case x => assumption); (case j => first | decide | exact Nat.le_refl _ | omega); (case g => assumption); (case d => decide); (case e => rfl); (case p => rfl))
  | ((with_reducible refine' we_call (x := "reduced") ?c ?x ?j ?g ?d ?e ?p ?_); (case c => assumption); (case x => assumption); (case j => first | decide | exact Nat.le_refl _ | omega); (case g => assumption); (case d => decide); (case e => rfl); (case p => rfl))
  | ((with_reducible refine' we_call (x := "_law_mix") ?c ?x ?j ?g ?d ?e ?p ?_); (case c => assumption); (case x => assumption); (case j => first | decide | exact Nat.le_refl _ | omega); (case g => assumption); (case d => decide); (case e => rfl); (case p => rfl))
  | ((with_reducible refine' we_call (x := "_law_start") ?c ?x ?j ?g ?d ?e ?p ?_); (case c => assumption); (case x => assumption); (case j => first | decide | exact Nat.le_refl _ | omega); (case g => assumption); (case d => decide); (case e => rfl); (case p => rfl))
  | ((with_reducible refine' we_call1 (x := "_law_next") ?c ?x ?j ?g ?d ?e ?p ?_); (case c => assumption); (case x => assumption); (case j => first | decide | exact Nat.le_refl _ | omega); (case g => assumption); (case d => decide); (case e => rfl); (case p => rfl))
  | ((with_reducible refine' we_call (x := "_law_is") ?c ?x ?j ?g ?d ?e ?p ?_); (case c => assumption); (case x => assumption); (case j => first | decide | exact Nat.le_refl _ | omega); (case g => assumption); (case d => decide); (case e => rfl); (case p => rfl))
  | ((with_reducible refine' we_call1 (x := "_law_names") ?c ?x ?j ?g ?d ?e ?p ?_); (case c => assumption); (case x => assumption); (case j => first | decide | exact Nat.le_refl _ | omega); (case g => assumption); (case d => decide); (case e => rfl); (case p => rfl))
  | ((with_reducible refine' we_call1 (x := "_law_lot") ?c ?x ?j ?g ?d ?e ?p ?_); (case c => assumption); (case x => assumption); (case j => first | decide | exact Nat.le_refl _ | omega); (case g => assumption); (case d => decide); (case e => rfl); (case p => rfl))
  | ((with_reducible refine' we_call1 (x := "_law_ledger") ?c ?x ?j ?g ?d ?e ?p ?_); (case c => assumption); (case x => assumption); (case j => first | decide | exact Nat.le_refl _ | omega); (case g => assumption); (case d => decide); (case e => rfl); (case p => rfl))
  | ((with_reducible refine' we_call1 (x := "_law_turned") ?c ?x ?j ?g ?d ?e ?p ?_); (case c => assumption); (case x => assumption); (case j => first | decide | exact Nat.le_refl _ | omega); (case g => assumption); (case d => decide); (case e => rfl); (case p => rfl))
  | ((with_reducible refine' we_call (x := "_law_reduced") ?c ?x ?j ?g ?d ?e ?p ?_); (case c => assumption); (case x => assumption); (case j => first | decide | exact Nat.le_refl _ | omega); (case g => assumption); (case d => decide); (case e => rfl); (case p => rfl))
  | ((with_reducible refine' we_call (x := "_law_freed") ?c ?x ?j ?g ?d ?e ?p ?_); (case c => assumption); (case x => assumption); (case j => first | decide | exact Nat.le_refl _ | omega); (case g => assumption); (case d => decide); (case e => rfl); (case p => rfl))
  | ((with_reducible refine' we_call1 (x := "_law_lots") ?c ?x ?j ?g ?d ?e ?p ?_); (case c => assumption); (case x => assumption); (case j => first | decide | exact Nat.le_refl _ | omega); (case g => assumption); (case d => decide); (case e => rfl); (case p => rfl))
  | ((with_reducible refine' we_call (x := "law") ?c ?x ?j ?g ?d ?e ?p ?_); (case c => assumption); (case x => assumption); (case j => first | decide | exact Nat.le_refl _ | omega); (case g => assumption); (case d => decide); (case e => rfl); (case p => rfl)))
/-! the steps: one line a construct -/
local macro_rules | `(tactic| row_cond dlen) => `(tactic| (intro ds M R Q h; first | (obtain ⟨h1, _⟩ := h; subst h1; rfl) | (obtain ⟨_, h1, _⟩ := h; subst h1; rfl) | (obtain ⟨_, _, h1, _⟩ := h; subst h1; rfl) | (obtain ⟨_, _, _, h1, _⟩ := h; subst h1; rfl) | (obtain ⟨_, _, _, _, h1, _⟩ := h; subst h1; rfl) | (obtain ⟨_, _, _, _, _, h1, _⟩ := h; subst h1; rfl) | (obtain ⟨_, _, _, _, _, _, h1, _⟩ := h; subst h1; rfl) | (obtain ⟨_, _, _, _, _, _, _, h1, _⟩ := h; subst h1; rfl) | (obtain ⟨_, _, _, _, _, _, _, _, h1, _⟩ := h; subst h1; rfl) | (obtain ⟨_, _, _, _, _, _, _, _, _, h1, _⟩ := h; subst h1; rfl) | (obtain ⟨_, _, _, _, _, _, _, _, _, _, h1, _⟩ := h; subst h1; rfl) | (obtain ⟨_, _, _, _, _, _, _, _, _, _, _, h1, _⟩ := h; subst h1; rfl) | (obtain ⟨_, _, _, _, _, _, _, _, _, _, _, _, h1, _⟩ := h; subst h1; rfl)))
local macro_rules | `(tactic| row_cond dsz) => `(tactic| first | exact Nat.le_of_ble_eq_true rfl | assumption | (simp only [List.length_map, List.length_cons, List.length_append, List.length_nil, List.length_reverse, List.length_take, List.length_drop, PySem.sizeLine]; omega))
/- expressions -/
local macro_rules | `(tactic| row_cond dE) => `(tactic| first
  | ((with_reducible refine' we_name ?n ?e ?_); (case n => assumption); (case e => rfl))
  | (with_reducible refine we_int ?_)
  | (with_reducible refine we_bl ?_)
  | (with_reducible refine we_str ?_)
  | (with_reducible refine we_non ?_)
  | (with_reducible refine we_bin ?_)
  | ((with_reducible refine' we_cmp ?n ?_); (case n => rfl))
  | (with_reducible refine we_slice ?_)
  | (with_reducible refine we_rev ?_)
  | ((with_reducible refine' we_ix ?n ?_); (case n => exact fun _ _ => rfl))
  | (with_reducible refine we_tupV ?_)
  | (with_reducible refine we_lstV ?_)
  | ((with_reducible refine' we_blt ?b ?n ?m ?_); (case b => assumption); (case n => rfl); (case m => rfl))
  | ((with_reducible refine' we_typ ?b ?n ?m ?_); (case b => assumption); (case n => rfl); (case m => rfl))
  | ((with_reducible refine' we_tyName ?b ?_); (case b => assumption))
  | (with_reducible refine we_one ?_)
  | (with_reducible refine we_and ?_)
  | (with_reducible refine we_or ?_)
  | (with_reducible refine we_not ?_)
  | (with_reducible refine we_ifexp ?_)
  | ((with_reducible refine' we_un ?n ?_); (case n => exact fun z => nomatch z))
  | row_cond dcall
  | ((with_reducible refine we_bm (T := "list") PySem.F.plainAttrs_list PySem.F.slot_list_append PySem.F.type_list_append ?a ?b ?c ?d ?e ?_); (case a => rfl); (case b => rfl); (case c => rfl); (case d => rfl); (case e => rfl))
  | ((with_reducible refine we_bm0 (T := "list") PySem.F.plainAttrs_list PySem.F.slot_list_pop PySem.F.type_list_pop ?a ?b ?_); (case a => rfl); (case b => rfl))
  | ((with_reducible refine we_bm (T := "list") PySem.F.plainAttrs_list PySem.F.slot_list_extend PySem.F.type_list_extend ?a ?b ?c ?d ?e ?_); (case a => rfl); (case b => rfl); (case c => rfl); (case d => rfl); (case e => rfl)))
/- tests -/
local macro_rules | `(tactic| row_cond dT) => `(tactic| first
  | ((with_reducible refine' wt_cmp ?n ?_); (case n => rfl))
  | (with_reducible refine wt_not ?_)
  | (with_reducible refine wt_bool ?_)
  | (with_reducible refine ww_and1 ?_)
  | (with_reducible refine ww_or1 ?_)
  | (with_reducible refine ww_and ?_)
  | (with_reducible refine ww_or ?_)
  | ((with_reducible refine' wt_val ?n ?_); (case n => exact fun _ => rfl)))
/- statements -/
local macro_rules | `(tactic| row_cond dS) => `(tactic| first
  | (with_reducible refine wss_cons ?_)
  | (with_reducible refine wss_nil ?_)
  | ((with_reducible refine' ws_set ?a ?n ?h ?_); (case a => assumption); (case n => assumption); (case h => rfl))
  | ((with_reducible refine' ws_sub ?h ?_); (case h => rfl))
  | ((with_reducible refine' ws_asg ?a ?n ?h ?_); (case a => rfl); (case n => rfl); (case h => rfl))
  | (with_reducible refine ws_if ?_)
  | row_cond dret
  | ((with_reducible refine' ws_expr ?h ?_); (case h => rfl))
  | (with_reducible refine ws_pass ?_)
  | (with_reducible refine ws_break ?_)
  | (with_reducible refine ws_continue ?_)
  | (with_reducible refine ws_retN ?_))
local macro_rules | `(tactic| row_cond dSn) => `(tactic| first
  | (with_reducible refine wss_cons ?_)
  | (with_reducible refine wss_nil ?_)
  | ((with_reducible refine' ws_set ?a ?n ?h ?_); (case a => assumption); (case n => assumption); (case h => rfl))
  | ((with_reducible refine' ws_sub ?h ?_); (case h => rfl))
  | ((with_reducible refine' ws_asg ?a ?n ?h ?_); (case a => rfl); (case n => rfl); (case h => rfl))
  | row_cond dret
  | ((with_reducible refine' ws_expr ?h ?_); (case h => rfl))
  | (with_reducible refine ws_pass ?_)
  | (with_reducible refine ws_break ?_)
  | (with_reducible refine ws_continue ?_)
  | (with_reducible refine ws_retN ?_))
/- arguments, targets, values -/
local macro_rules | `(tactic| row_cond dV) => `(tactic| first
  | (with_reducible refine wa_nil ?_)
  | ((with_reducible refine' wa_cons ?n ?_); (case n => rfl))
  | (with_reducible refine wav_nil ?_)
  | ((with_reducible refine' wav_cons ?n ?_); (case n => rfl))
  | (with_reducible refine put_go ?_)
  | (with_reducible refine fz_lst ?_)
  | (with_reducible refine fz_tup ?_)
  | (with_reducible refine fz_id ?_)
  | (with_reducible refine own0_go ?_)
  | (with_reducible refine own1_go ?_)
  | (with_reducible refine app_go ?_)
  | (with_reducible refine mset_go ?_)
  | ((with_reducible refine' wg_name ?a ?n ?_); (case a => assumption); (case n => assumption))
  | ((with_reducible refine' wg_tup ?a ?n ?h ?_); (case a => assumption); (case n => rfl); (case h => rfl))
  | (with_reducible refine wgs_nil ?_)
  | ((with_reducible refine' wgs_cons ?n ?_); (case n => rfl))
  | (with_reducible refine wpt_none ?_)
  | (with_reducible refine wpt_some ?_)
  | ((with_reducible refine' wset_list ?n ?_); (case n => first | rfl | row_cond dix)))
/- what is walked -/
local macro_rules | `(tactic| row_cond dI) => `(tactic| first
  | ((with_reducible refine' wi_range1 ?a ?b ?c ?_); (case a => exact BltAt.gl (by assumption)); (case b => exact BltAt.mg (by assumption)); (case c => rfl))
  | ((with_reducible refine' wi_range2 ?a ?b ?c ?d ?_); (case a => exact BltAt.gl (by assumption)); (case b => exact BltAt.mg (by assumption)); (case c => rfl); (case d => rfl))
  | (with_reducible refine wi_val ?_)
  | (with_reducible refine wiv_list ?_)
  | (with_reducible refine wiv_tup ?_)
  | (with_reducible refine wiv_seq ?_)
  | ((with_reducible refine' wgc_name ?a ?n ?h ?_); (case a => assumption); (case n => assumption); (case h => decide))
  | ((with_reducible refine' wgc_tup ?a ?n ?h ?_); (case a => assumption); (case n => rfl); (case h => rfl))
  | (with_reducible refine wgcs_nil ?_)
  | ((with_reducible refine' wgcs_cons ?n ?_); (case n => rfl))
  | (with_reducible refine wts_nil ?_)
  | (with_reducible refine wts_one ?_))
/- operations by values -/
local macro_rules | `(tactic| row_cond dO) => `(tactic| first
  | (with_reducible refine wo_add ?_)
  | (with_reducible refine wo_sub ?_)
  | ((with_reducible refine' wo_mulS ?n ?_); (case n => first | exact .inr ⟨by decide, by decide⟩ | exact .inl ⟨by decide, by decide⟩ | exact .inr ⟨by omega, by omega⟩ | exact .inl ⟨by omega, by omega⟩))
  | ((with_reducible refine' wo_fdiv ?n ?m ?_); (case n => first | decide | omega); (case m => first | decide | row_cond dlog))
  | ((with_reducible refine' wo_mod ?n ?_); (case n => first | decide | omega))
  | (with_reducible refine wo_powL ?_)
  | ((with_reducible refine' wo_pow ?n ?_); (case n => exact ⟨by decide, by decide, by decide⟩))
  | (with_reducible refine wo_xor ?_)
  | (with_reducible refine wo_lt ?_)
  | (with_reducible refine wo_le ?_)
  | (with_reducible refine wo_gt ?_)
  | (with_reducible refine wo_ge ?_)
  | (with_reducible refine wo_eqI ?_)
  | (with_reducible refine wo_neI ?_)
  | (with_reducible refine wo_eqS ?_)
  | (with_reducible refine wo_neS ?_)
  | (with_reducible refine wo_isN ?_)
  | (with_reducible refine wo_isnotN ?_)
  | (with_reducible refine wu_neg ?_)
  | (with_reducible refine wc_int ?_)
  | (with_reducible refine wc_intB ?_)
  | (with_reducible refine wc_abs ?_)
  | ((with_reducible refine' wc_max2 ?a ?_); (case a => assumption))
  | ((with_reducible refine' wc_min2 ?a ?_); (case a => assumption))
  | (with_reducible refine wc_list ?_)
  | (with_reducible refine wc_tuple ?_)
  | ((with_reducible refine' wc_lenS ?a ?_); (case a => row_cond dsz))
  | (with_reducible refine wc_lenM ?_)
  | (with_reducible refine wc_len ?_)
  | (with_reducible refine wc_isK ?_)
  | ((with_reducible refine' wc_allM ?a ?_); (case a => assumption))
  | ((with_reducible refine' wc_anyM ?a ?_); (case a => assumption))
  | ((with_reducible refine' wc_sum ?a ?_); (case a => assumption))
  | ((with_reducible refine' wx_list ?n ?_); (case n => row_cond dat))
  | ((with_reducible refine' wx_map ?a ?b ?_); (case a => omega); (case b => omega))
  | ((with_reducible refine' wx_seq ?a ?b ?_); (case a => omega); (case b => omega))
  | ((with_reducible refine' wx_tup ?n ?_); (case n => row_cond dat))
  | (with_reducible refine wsl_listM ?_)
  | (with_reducible refine wsl_list ?_)
  | (with_reducible refine wrev_goM ?_)
  | (with_reducible refine wrev_go ?_)
  | ((with_reducible refine' wo_catM ?n ?_); (case n => row_cond dsz))
  | ((with_reducible refine' wo_cat ?n ?_); (case n => row_cond dsz))
  | ((with_reducible refine' wm_append ?n ?_); (case n => row_cond dsz)))
local macro_rules | `(tactic| row_cond dat) => `(tactic| rfl)
local macro_rules | `(tactic| row_cond dix) => `(tactic| rfl)
local macro_rules | `(tactic| row_cond dlog) => `(tactic| first | decide | exact log_small (by omega) (by omega))
/- what stands between -/
local macro_rules | `(tactic| row_cond dQ) => `(tactic| first
  | (with_reducible refine ⟨_, rfl, ?_⟩)
  | (with_reducible refine br_true ?_)
  | (with_reducible refine br_false ?_)
  | (with_reducible refine rb_true ?_)
  | (with_reducible refine rb_false ?_)
  | ((with_reducible refine' br_dec ?_ ?_) <;> intro _)
  | ((with_reducible refine' br_ndec ?_ ?_) <;> intro _)
  | ((with_reducible refine' rb_dec ?_ ?_) <;> intro _)
  | ((with_reducible refine' rb_ndec ?_ ?_) <;> intro _)
  | (refine br_is rfl ?_)
  | (refine br_isnot rfl ?_)
  | (refine rb_is rfl ?_)
  | (refine rb_isnot rfl ?_)
  | ((with_reducible refine' ⟨⟨?a, ?b⟩, ?_⟩); (case a => omega); (case b => omega))
  | ((with_reducible refine' ⟨⟨?a, ?b, ?c, ?d⟩, ?_⟩); (case a => omega); (case b => omega); (case c => omega); (case d => omega))
  | (with_reducible refine app_go ?_)
  | (with_reducible refine ⟨tym_list, ?_⟩)
  | (with_reducible refine ⟨tym_str, ?_⟩)
  | ((with_reducible refine ⟨?n, ?_⟩); (case n => (show _ ≤ PySem.sizeLine); row_cond dsz))
  | (with_reducible intro _))
local macro_rules | `(tactic| row_cond dstart) => `(tactic| simp only [startD, List.map_cons, List.map_nil, List.length_cons, List.length_nil, List.cons_append, List.nil_append, Nat.zero_add, Nat.reduceAdd, Nat.reduceSub, List.replicate_succ, List.replicate_zero])
local macro_rules | `(tactic| row_cond d) => `(tactic| first | row_cond dE | row_cond dV | row_cond dO | row_cond dT | row_cond dS | row_cond dI | row_cond dmore | row_cond dspec | row_cond dQ)
local macro_rules | `(tactic| row_cond dn) => `(tactic| first | row_cond dE | row_cond dV | row_cond dO | row_cond dT | row_cond dSn | row_cond dI | row_cond dmore | row_cond dspec | row_cond dQ)
local macro_rules | `(tactic| row_cond gon) => `(tactic| repeat' (row_cond dn))
local macro_rules | `(tactic| row_cond go) => `(tactic| repeat' (row_cond d))
/- the later parts of the layer -/
local macro_rules | `(tactic| row_cond dE) => `(tactic| first
  | ((with_reducible refine' we_sortedSet ?a ?b ?c ?d ?e ?_); (case a => assumption); (case b => assumption); (case c => assumption); (case d => rfl); (case e => rfl))
  | ((with_reducible refine' we_get2 ?a ?b ?_); (case a => assumption); (case b => exact ⟨rfl, rfl, rfl, rfl⟩))
  | ((with_reducible refine' we_get1 ?a ?b ?_); (case a => assumption); (case b => exact ⟨rfl, rfl, rfl, rfl⟩))
  | ((with_reducible refine' we_pop1 ?b ?_); (case b => exact ⟨rfl, rfl, rfl, rfl⟩)))
local macro_rules | `(tactic| row_cond dO) => `(tactic| first
  | ((with_reducible refine' wc_sorted ?a ?b ?c ?_); (case a => assumption); (case b => decide); (case c => first | exact fun _ _ => trivial | assumption))
  | ((with_reducible refine' wsorted_go ?a ?_); (case a => first | assumption | omega))
  | ((with_reducible refine' wo_inD ?a ?b ?_); (case a => assumption); (case b => decide))
  | ((with_reducible refine' wo_ninD ?a ?b ?_); (case a => assumption); (case b => decide))
  | (with_reducible refine getD_K ?_)
  | (with_reducible refine getD_T ?_)
  | ((with_reducible refine' wsl_txt ?a ?_); (case a => row_cond dsz))
  | ((with_reducible refine' wx_strN ?a ?b ?c ?_); (case a => row_cond dsz); (case b => omega); (case c => first | omega | (simp only [PySem.Str.length]; omega)))
  | (with_reducible refine ⟨isDD_K, ?_⟩)
  | (with_reducible refine ⟨isDD_T, ?_⟩))
local macro_rules | `(tactic| row_cond dO) => `(tactic| first
  | ((with_reducible refine' wm_appendM ?n ?_); (case n => row_cond dsz)))
local macro_rules | `(tactic| row_cond dE) => `(tactic| ((with_reducible refine' we_con ?c ?_); (case c => assumption)))
local macro_rules | `(tactic| row_cond dV) => `(tactic| first
  | (with_reducible refine wk_nil ?_)
  | (with_reducible refine wk_cons ?_)
  | (with_reducible refine ⟨rfl, rfl, ?_⟩))
local macro_rules | `(tactic| row_cond dI) => `(tactic| ((with_reducible refine' wi_range3 ?a ?b ?c ?d ?_); (case a => exact BltAt.gl (by assumption)); (case b => exact BltAt.mg (by assumption)); (case c => rfl); (case d => rfl)))
local macro_rules | `(tactic| row_cond dO) => `(tactic| first
  | ((with_reducible refine' wc_lenS ?a ?_); (case a => row_cond dsz)))
local macro_rules | `(tactic| row_cond dO) => `(tactic| first
  | ((with_reducible refine' wo_addS ?a ?_); (case a => row_cond dsz)))
local macro_rules | `(tactic| row_cond dO) => `(tactic| first
  | ((with_reducible refine' wo_addS2 ?a ?_); (case a => first | decide | omega))
  | ((with_reducible refine' wsl_txt2 ?a ?_); (case a => first | decide | omega))
  | ((with_reducible refine' wc_lenS2 ?a ?_); (case a => first | decide | omega)))
local macro_rules | `(tactic| row_cond dE) => `(tactic| first
  | ((with_reducible refine we_bm (T := "str") PySem.F.plainAttrs_str PySem.F.slot_str_index PySem.F.type_str_index ?a ?b ?c ?d ?e ?_); (case a => rfl); (case b => rfl); (case c => rfl); (case d => rfl); (case e => rfl))
  | ((with_reducible refine we_bm (T := "str") PySem.F.plainAttrs_str PySem.F.slot_str_join PySem.F.type_str_join ?a ?b ?c ?d ?e ?_); (case a => rfl); (case b => rfl); (case c => rfl); (case d => rfl); (case e => rfl))
  | ((with_reducible refine we_bm (T := "str") PySem.F.plainAttrs_str PySem.F.slot_str_startswith PySem.F.type_str_startswith ?a ?b ?c ?d ?e ?_); (case a => rfl); (case b => rfl); (case c => rfl); (case d => rfl); (case e => rfl)))
local macro_rules | `(tactic| row_cond dO) => `(tactic| first
  | (with_reducible refine wm_starts ?_))
local macro_rules | `(tactic| row_cond dret) => `(tactic| (with_reducible refine ws_ret ?_))
local macro_rules | `(tactic| row_cond dO) => `(tactic| first
  | ((with_reducible refine' wx_asK ?a ?b ?_); (case a => assumption); (case b => assumption))
  | ((with_reducible refine' wo_inAsK ?a ?_); (case a => assumption))
  | ((with_reducible refine' wo_ninAsK ?a ?_); (case a => assumption))
  | ((with_reducible refine' wset_asK ?a ?b ?_); (case a => assumption); (case b => row_cond dsz))
  | (with_reducible refine getD_asK ?_)
  | ((with_reducible refine' popD_asK ?b ?_); (case b => assumption))
  | ((with_reducible refine' wx_asT ?a ?b ?_); (case a => assumption); (case b => assumption))
  | ((with_reducible refine' wo_inAsT ?a ?_); (case a => assumption))
  | ((with_reducible refine' wo_ninAsT ?a ?_); (case a => assumption))
  | ((with_reducible refine' wset_asT ?a ?b ?_); (case a => assumption); (case b => row_cond dsz))
  | (with_reducible refine getD_asT ?_)
  | ((with_reducible refine' wc_sortedAs ?a ?_); (case a => assumption)))
local macro_rules | `(tactic| row_cond dO) => `(tactic| first
  | (with_reducible refine wc_lenAsK ?_)
  | (with_reducible refine wc_lenAsT ?_))
local macro_rules | `(tactic| row_cond dI) => `(tactic| first
  | (with_reducible refine wiv_asK ?_))
local macro_rules | `(tactic| row_cond dV) => `(tactic| (with_reducible refine star_go ?_))
local macro_rules | `(tactic| row_cond dO) => `(tactic| first
  | ((with_reducible refine' wc_sortedAsT ?a ?b ?_); (case a => assumption); (case b => assumption))
  | ((with_reducible refine' wm_insert ?a ?b ?c ?_); (case a => row_cond dsz); (case b => omega); (case c => omega)))
local macro_rules | `(tactic| row_cond dE) => `(tactic| first
  | ((with_reducible refine we_bm (T := "list") PySem.F.plainAttrs_list PySem.F.slot_list_insert PySem.F.type_list_insert ?a ?b ?c ?d ?e ?_); (case a => rfl); (case b => rfl); (case c => rfl); (case d => rfl); (case e => rfl)))

local macro_rules | `(tactic| row_cond dspec) => `(tactic| first
  | ((with_reducible refine' sp_law_next_go ?a ?b ?c ?_); (case a => assumption); (case b => first | decide | omega | (split <;> omega)); (case c => first | decide | omega | (split <;> omega)))
  | (with_reducible refine sp_law_mix_go ?_))
local macro_rules | `(tactic| row_cond dmore) => `(tactic| first
  | (with_reducible refine ⟨_, [], rfl, ?_⟩))

/-! ### the law -/
theorem sp_names_go {p : Addr} {st : D} {n : Int} {R : Mem} {Q : D → Mem → Prop} (hs : DrawSt st) (h0 : 0 ≤ n) (h1 : n ≤ 25) (q : ∀ (ws : List Str) (st' : D), (ws.length : Int) = n → ws.Nodup → DrawSt st' → Q (.lst (ws.map D.str)) [(p, st')]) : sp_law_names [.ref p, .int n] [(p, st)] R Q := ⟨p, st, n, rfl, rfl, hs, h0, h1, q⟩
theorem sp_dled_go {p : Addr} {st : D} {xs os : List Str} {n : Int} {R : Mem} {Q : D → Mem → Prop} (hs : DrawSt st) (h1 : xs.length ≤ 400) (h2 : os.length ≤ 400) (h3 : 0 < xs.length) (nd : (xs ++ os).Nodup) (h4 : 0 ≤ n) (h5 : n ≤ 400) (q : ∀ (L : Lg) (st' : D), LgOk L → (∀ r ∈ L, 0 < r.1.length) → L.length ≤ 400 → DrawSt st' → Q (.lst (L.map encRow)) [(p, st')]) : sp_law_ledger [.ref p, .lst (xs.map D.str), .lst (os.map D.str), .int n] [(p, st)] R Q := ⟨p, st, xs, os, n, rfl, rfl, hs, h1, h2, h3, nd, h4, h5, q⟩
theorem sp_lots_go {p : Addr} {st : D} {xs : List Str} {n : Int} {R : Mem} {Q : D → Mem → Prop} (hs : DrawSt st) (h1 : xs.length ≤ 400) (q : ∀ (Ls : List (List Str)) (st' : D), Ls.length ≤ 1000 → (∀ l ∈ Ls, l.length ≤ 400 ∧ ∀ n ∈ l, n ∈ xs) → DrawSt st' → Q (.lst (Ls.map encL)) [(p, st')]) : sp_law_lots [.ref p, .lst (xs.map D.str), .int n] [(p, st)] R Q := ⟨p, st, xs, n, rfl, rfl, hs, h1, q⟩
local macro_rules | `(tactic| row_cond dspec) => `(tactic| first
  | ((with_reducible refine' sp_names_go ?a ?b ?c ?_); (case a => assumption); (case b => omega); (case c => omega))
  | ((with_reducible refine' sp_dled_go ?a ?b ?c ?d ?e ?f ?g ?_); (case a => assumption); (case b => omega); (case c => omega); (case d => omega); (case e => assumption); (case f => omega); (case g => omega))
  | ((with_reducible refine' sp_turn_go ?a ?b ?_); (case a => assumption); (case b => omega))
  | ((with_reducible refine' sp_lots_go ?a ?b ?_); (case a => assumption); (case b => omega)))
theorem law_rest {P : Program} {w : World} {K : PySem.W.Frag} {mg : Str → Option Value} {base : Heap} (T : Tx mg) (c_law_names : Cal P w K mg base 3 "_law_names" sp_law_names) (c_law_next : Cal P w K mg base 2 "_law_next" sp_law_next) (c_law_ledger : Cal P w K mg base 4 "_law_ledger" sp_law_ledger) (c_law_lots : Cal P w K mg base 3 "_law_lots" sp_law_lots) (c_law_reduced : Cal P w K mg base 1 "_law_reduced" sp_law_reduced) (c_reduced : Cal P w K mg base 3 "reduced" sp_reduced) (c_law_turned : Cal P w K mg base 3 "_law_turned" sp_law_turned) (c_law_is : Cal P w K mg base 5 "_law_is" (sp_law_is 4)) (c_law_freed : Cal P w K mg base 1 "_law_freed" sp_law_freed) (c_freed : Cal P w K mg base 1 "freed" sp_freed) (X : Cx) (F : Fr) (hX : In X P w K mg base 5) (nm : Nm X N_law (defScope s_law)) (p : Addr) (st : D) (hS : DrawSt st) : WSs X F (defBody s_law).tail ⟨none :: some (.ref p) :: List.replicate (N_law.length - 2) none, [(p, st)], []⟩ (outD fun d _ => d = .bl true) := by
  have hst := hX.std
  have n_script : NameAt X 0 "script" := nm.name rfl (.inl rfl) (by decide) (by decide)
  have s_script : StoreAt X 0 "script" := nm.store rfl (.inl rfl)
  have n_state : NameAt X 1 "state" := nm.name rfl (.inr rfl) (by decide) (by decide)
  have s_state : StoreAt X 1 "state" := nm.store rfl (.inr rfl)
  have n_many : NameAt X 2 "many" := nm.name rfl (.inl rfl) (by decide) (by decide)
  have s_many : StoreAt X 2 "many" := nm.store rfl (.inl rfl)
  have n_words : NameAt X 3 "words" := nm.name rfl (.inl rfl) (by decide) (by decide)
  have s_words : StoreAt X 3 "words" := nm.store rfl (.inl rfl)
  have n_names : NameAt X 4 "names" := nm.name rfl (.inl rfl) (by decide) (by decide)
  have s_names : StoreAt X 4 "names" := nm.store rfl (.inl rfl)
  have n_others : NameAt X 5 "others" := nm.name rfl (.inl rfl) (by decide) (by decide)
  have s_others : StoreAt X 5 "others" := nm.store rfl (.inl rfl)
  have n_rows : NameAt X 6 "rows" := nm.name rfl (.inl rfl) (by decide) (by decide)
  have s_rows : StoreAt X 6 "rows" := nm.store rfl (.inl rfl)
  have n_ledger : NameAt X 7 "ledger" := nm.name rfl (.inl rfl) (by decide) (by decide)
  have s_ledger : StoreAt X 7 "ledger" := nm.store rfl (.inl rfl)
  have n_gone : NameAt X 8 "gone" := nm.name rfl (.inl rfl) (by decide) (by decide)
  have s_gone : StoreAt X 8 "gone" := nm.store rfl (.inl rfl)
  have n_kept : NameAt X 9 "kept" := nm.name rfl (.inl rfl) (by decide) (by decide)
  have s_kept : StoreAt X 9 "kept" := nm.store rfl (.inl rfl)
  have n_left : NameAt X 10 "left" := nm.name rfl (.inl rfl) (by decide) (by decide)
  have s_left : StoreAt X 10 "left" := nm.store rfl (.inl rfl)
  have n_name : NameAt X 11 "name" := nm.name rfl (.inl rfl) (by decide) (by decide)
  have s_name : StoreAt X 11 "name" := nm.store rfl (.inl rfl)
  have n_way : NameAt X 12 "way" := nm.name rfl (.inl rfl) (by decide) (by decide)
  have s_way : StoreAt X 12 "way" := nm.store rfl (.inl rfl)
  have n_gone_more : NameAt X 13 "gone_more" := nm.name rfl (.inr rfl) (by decide) (by decide)
  have s_gone_more : StoreAt X 13 "gone_more" := nm.store rfl (.inr rfl)
  have n_kept_more : NameAt X 14 "kept_more" := nm.name rfl (.inl rfl) (by decide) (by decide)
  have s_kept_more : StoreAt X 14 "kept_more" := nm.store rfl (.inl rfl)
  have n_lots : NameAt X 15 "lots" := nm.name rfl (.inl rfl) (by decide) (by decide)
  have s_lots : StoreAt X 15 "lots" := nm.store rfl (.inl rfl)
  have n_passed : NameAt X 16 "passed" := nm.name rfl (.inl rfl) (by decide) (by decide)
  have s_passed : StoreAt X 16 "passed" := nm.store rfl (.inl rfl)
  have n_copies : NameAt X 17 "copies" := nm.name rfl (.inl rfl) (by decide) (by decide)
  have s_copies : StoreAt X 17 "copies" := nm.store rfl (.inl rfl)
  have n_due : NameAt X 18 "due" := nm.name rfl (.inl rfl) (by decide) (by decide)
  have s_due : StoreAt X 18 "due" := nm.store rfl (.inl rfl)
  have n_inner : NameAt X 19 "inner" := nm.name rfl (.inl rfl) (by decide) (by decide)
  have s_inner : StoreAt X 19 "inner" := nm.store rfl (.inl rfl)
  have n_told : NameAt X 20 "told" := nm.name rfl (.inl rfl) (by decide) (by decide)
  have s_told : StoreAt X 20 "told" := nm.store rfl (.inl rfl)
  have n_shown : NameAt X 21 "shown" := nm.name rfl (.inl rfl) (by decide) (by decide)
  have s_shown : StoreAt X 21 "shown" := nm.store rfl (.inl rfl)
  have n_whole : NameAt X 22 "whole" := nm.name rfl (.inl rfl) (by decide) (by decide)
  have s_whole : StoreAt X 22 "whole" := nm.store rfl (.inl rfl)
  have n_lot : NameAt X 23 "lot" := nm.name rfl (.inl rfl) (by decide) (by decide)
  have s_lot : StoreAt X 23 "lot" := nm.store rfl (.inl rfl)
  have n_part : NameAt X 24 "part" := nm.name rfl (.inl rfl) (by decide) (by decide)
  have s_part : StoreAt X 24 "part" := nm.store rfl (.inl rfl)
  have g_law_start : Gl X "_law_start" := nm.gl rfl
  have g_law_next : Gl X "_law_next" := nm.gl rfl
  have g_law_names : Gl X "_law_names" := nm.gl rfl
  have b_sorted : BltAt X "sorted" (.builtin "sorted") := nm.blt hX rfl T.z_sorted bo_sorted (by decide) (by decide)
  have g_law_ledger : Gl X "_law_ledger" := nm.gl rfl
  have g_law_lots : Gl X "_law_lots" := nm.gl rfl
  have b_list : BltAt X "list" (.type "list") := nm.blt hX rfl T.z_list bo_list (by decide) (by decide)
  have g_law_turned : Gl X "_law_turned" := nm.gl rfl
  have b_tuple : BltAt X "tuple" (.type "tuple") := nm.blt hX rfl T.z_tuple bo_tuple (by decide) (by decide)
  have g_law_reduced : Gl X "_law_reduced" := nm.gl rfl
  have g_reduced : Gl X "reduced" := nm.gl rfl
  have g_law_is : Gl X "_law_is" := nm.gl rfl
  have g_law_freed : Gl X "_law_freed" := nm.gl rfl
  have g_freed : Gl X "freed" := nm.gl rfl
  show WSs X F _ ⟨[none, some (.ref p), none, none, none, none, none, none, none, none, none, none, none, none, none, none, none, none, none, none, none, none, none, none, none], [(p, st)], []⟩ _
  refine wss_cons ?_
  row_cond gon
  rename_i r1 s1 h10 h11 hs1
  refine ws_mid (fun Γ => ∃ (st : D) (m : Int), Γ = ⟨[none, some (.ref p), some (.int m), none, none, none, none, none, none, none, none, none, none, none, none, none, none, none, none, none, none, none, none, none, none], [(p, st)], []⟩ ∧ DrawSt st ∧ 1 ≤ m ∧ m ≤ 20) ?_ ?_
  · row_cond go
    all_goals exact ⟨_, _, rfl, by assumption, by omega, by omega⟩
  clear hs1 hS
  rintro Γ ⟨st, m, rfl, hs, hm0, hm1⟩
  row_cond gon
  rename_i ws s2 hwl hnd hs2 pa pb r3 s3 h30 h31 hs3 pc r4 s4 h40 h41 hs4
  clear hs hs2 hs3
  obtain ⟨N, hNe⟩ : ∃ N, N = srt ltS (DL.cutD ws none (some m)) := ⟨_, rfl⟩
  obtain ⟨O', hOe⟩ : ∃ O', O' = DL.cutD ws (some m) (some (m + r3)) := ⟨_, rfl⟩
  have hNO : (N ++ O').Nodup ∧ N.length = m.toNat ∧ O'.length ≤ 25 := by
    rw [hNe, hOe, cut_to _ (by omega), cut_mid _ (by omega) (by omega)]
    refine ⟨?_, by rw [srt_len, List.length_take]; omega, by rw [List.length_take, List.length_drop]; omega⟩
    have h1 : (ws.take m.toNat ++ (ws.drop m.toNat).take ((m + r3).toNat - m.toNat)).Nodup := by
      have h2 : (ws.take m.toNat ++ ws.drop m.toNat).Nodup := by rw [List.take_append_drop]; exact hnd
      exact ((List.Sublist.refl _).append (List.take_sublist _ _)).nodup h2
    exact ((srt_perm.append_right _).nodup_iff).mpr h1
  rw [← hNe, ← hOe]
  obtain ⟨hNO, hNl, hOl⟩ := hNO
  have hN0 : 0 < N.length := by omega
  have hN25 : N.length ≤ 25 := by omega
  have hNd : N.Nodup := (List.nodup_append.mp hNO).1
  clear hNe hOe hNl
  refine ws_mid (fun Γ => ∃ (st : D) (v : Int), Γ = ⟨[none, some (.ref p), some (.int m), some (.lst (ws.map D.str)), some (.ref pb), some (.ref pc), some (.int v), none, none, none, none, none, none, none, none, none, none, none, none, none, none, none, none, none, none], [(pc, .lst (O'.map D.str)), (pb, .lst (N.map D.str)), (p, st)], []⟩ ∧ DrawSt st ∧ 0 ≤ v ∧ v ≤ 400) ?_ ?_
  · refine ws_wk ?_
    row_cond go
    all_goals exact ⟨_, wk_sub (.cons₂ _ (.cons₂ _ (.cons _ (.refl _)))), _, _, rfl, by assumption, by omega, by omega⟩
  clear hs4
  rintro Γ ⟨st, v, rfl, hs, hv0, hv1⟩
  refine wss_fz pc (wss_fz pb ?_)
  row_cond gon
  rename_i L s5 hL hL0 hLl hs5 pg pk pf
  clear hs
  refine ws_mid (fun Γ => ∃ (st : D) (G K F' : List Str) (a b : Option D), Γ = ⟨[none, some (.ref p), some (.int m), some (.lst (ws.map D.str)), some (.lst (N.map D.str)), some (.lst (O'.map D.str)), some (.int v), some (.lst (L.map encRow)), some (.ref pg), some (.ref pk), some (.ref pf), a, b, none, none, none, none, none, none, none, none, none, none, none, none], [(pf, .lst (F'.map D.str)), (pk, .lst (K.map D.str)), (pg, .lst (G.map D.str)), (p, st)], []⟩ ∧ DrawSt st ∧ (G ++ K ++ F').Perm N) ?_ ?_
  · refine ws_forW hst (fun _ => rfl) ?_
    row_cond go
    refine ⟨fun i Γ => ∃ (st : D) (G K F' : List Str) (a b : Option D), Γ = ⟨[none, some (.ref p), some (.int m), some (.lst (ws.map D.str)), some (.lst (N.map D.str)), some (.lst (O'.map D.str)), some (.int v), some (.lst (L.map encRow)), some (.ref pg), some (.ref pk), some (.ref pf), a, b, none, none, none, none, none, none, none, none, none, none, none, none], [(pf, .lst (F'.map D.str)), (pk, .lst (K.map D.str)), (pg, .lst (G.map D.str)), (p, st)], []⟩ ∧ DrawSt st ∧ (G ++ K ++ F').Perm (N.take i), ⟨_, [], [], [], _, _, rfl, hs5, List.Perm.refl _⟩, ?_, fun i x Γ hx hW => ?_, fun Γ hW => ?_⟩
    · rintro i Γ ⟨st, G, K, F', a, b, rfl, _⟩
      exact .self _
    · obtain ⟨st, G, K, F', a, b, rfl, hs, hp⟩ := hW
      rw [List.getElem?_map] at hx
      obtain ⟨y, hy, rfl⟩ := Option.map_eq_some_iff.mp hx
      have hpl := hp.length_eq
      rw [List.length_append, List.length_append, List.length_take] at hpl
      have e : N.take (i + 1) = N.take i ++ [y] := by rw [List.take_add_one, hy]; rfl
      have pm : ∀ A B : List Str, (A ++ [y] ++ B).Perm (A ++ B ++ [y]) := fun A B => by
        rw [List.append_assoc, List.append_assoc]
        exact List.Perm.append_left _ List.perm_append_comm
      row_cond go
      · refine ⟨_, .refl _, _, G ++ [y], K, F', _, _, rfl, by assumption, ?_⟩
        rw [e, List.append_assoc (G ++ [y])]
        exact (pm G (K ++ F')).trans (by rw [← List.append_assoc]; exact hp.append_right _)
      · refine ⟨_, .refl _, _, G, K ++ [y], F', _, _, rfl, by assumption, ?_⟩
        rw [e, ← List.append_assoc G K]
        exact (pm (G ++ K) F').trans (hp.append_right _)
      · refine ⟨_, .refl _, _, G, K, F' ++ [y], _, _, rfl, by assumption, ?_⟩
        rw [e, ← List.append_assoc]
        exact hp.append_right _
    · obtain ⟨st, G, K, F', a, b, rfl, hs, hp⟩ := hW
      rw [List.length_map, List.take_length] at hp
      exact ⟨_, _, _, _, _, _, rfl, hs, hp⟩
  clear hs5
  rintro Γ ⟨st, G, K, F', a, b, rfl, hs, hp⟩
  refine wss_fz pf (wss_fz pk (wss_fz pg ?_))
  have hlen := hp.length_eq
  rw [List.length_append, List.length_append] at hlen
  have hGl : G.length ≤ 25 := by omega
  have hKl : K.length ≤ 25 := by omega
  have hFl : F'.length ≤ 25 := by omega
  clear hlen
  refine wss_cons ?_
  refine ws_mid (fun Γ => ∃ (st : D) (gm : List Str) (q : Addr), Γ = ⟨[none, some (.ref p), some (.int m), some (.lst (ws.map D.str)), some (.lst (N.map D.str)), some (.lst (O'.map D.str)), some (.int v), some (.lst (L.map encRow)), some (.lst (G.map D.str)), some (.lst (K.map D.str)), some (.lst (F'.map D.str)), a, b, some (.ref q), none, none, none, none, none, none, none, none, none, none, none], [(q, .lst (gm.map D.str)), (p, st)], []⟩ ∧ DrawSt st ∧ gm.Sublist F') ?_ ?_
  · refine ws_set hst s_gone_more (nm.staysL (by decide +kernel)) ?_
    refine we_lc' hst (own := [("name", 11)]) (nm.blk (by decide +kernel)) (fun _ => rfl) rfl ?_
    row_cond go
    refine lc_name1 hX (by rw [nm.N]; rfl) (by first | exact .inl rfl | exact .inr rfl) (fun i acc M' => ∃ (ys : List Str) (st : D), acc = ys.map D.str ∧ M' = [(p, st)] ∧ ys.Sublist (F'.take i) ∧ DrawSt st) ⟨[], _, rfl, rfl, .slnil, hs⟩ (fun c j acc M' h => .self _) (fun c i x acc M' hx hW => ?_) (fun c acc M' hW => ?_)
    · obtain ⟨ys, st, rfl, rfl, hsub, hs⟩ := hW
      rw [List.getElem?_map] at hx
      obtain ⟨y, hy, rfl⟩ := Option.map_eq_some_iff.mp hx
      have hyl := hsub.length_le
      rw [List.length_take] at hyl
      have e : F'.take (i + 1) = F'.take i ++ [y] := by rw [List.take_add_one, hy]; rfl
      refine put_go (fun X' hb => ?_)
      have hX_X' := hb.inn hX
      have hst_X' := hX_X'.std
      have n_name_X' : NameAt X' 11 "name" := hb.name (by rw [nm.N]; rfl) (by first | exact .inl rfl | exact .inr (.inl rfl) | exact .inr (.inr rfl)) (by decide) (by decide)
      have s_name_X' : StoreAt X' 11 "name" := hb.store (by rw [nm.N]; rfl) (by first | exact .inl rfl | exact .inr rfl)
      have g_law_next_X' : Gl X' "_law_next" := hb.gl rfl
      have n_state_X' : NameAt X' 1 "state" := hb.name (by rw [nm.N]; rfl) (by first | exact .inl rfl | exact .inr (.inl rfl) | exact .inr (.inr rfl)) (by decide) (by decide)
      row_cond go
      · rename_i r s2 hr hr' hs2 hz X2 hb2
        have hX_X2 := hb2.inn hX
        have hst_X2 := hX_X2.std
        have n_name_X2 : NameAt X2 11 "name" := hb2.name (by rw [nm.N]; rfl) (by first | exact .inl rfl | exact .inr (.inl rfl) | exact .inr (.inr rfl)) (by decide) (by decide)
        have s_name_X2 : StoreAt X2 11 "name" := hb2.store (by rw [nm.N]; rfl) (by first | exact .inl rfl | exact .inr rfl)
        have g_law_next_X2 : Gl X2 "_law_next" := hb2.gl rfl
        have n_state_X2 : NameAt X2 1 "state" := hb2.name (by rw [nm.N]; rfl) (by first | exact .inl rfl | exact .inr (.inl rfl) | exact .inr (.inr rfl)) (by decide) (by decide)
        row_cond go
        refine lcend_id (by rw [List.length_map]; show _ < 16777216; omega) ⟨ys ++ [y], _, by rw [List.map_append]; rfl, rfl, ?_, hs2⟩
        rw [e]; exact hsub.append (.refl _)
      · rename_i r s2 hr hr' hs2 hz
        refine ⟨_, _, rfl, ys, _, rfl, rfl, ?_, hs2⟩
        rw [e]; exact hsub.trans (List.sublist_append_left _ _)
    · obtain ⟨ys, st, rfl, rfl, hsub, hs⟩ := hW
      rw [List.length_map, List.take_length] at hsub
      row_cond go
      exact ⟨_, _, _, rfl, hs, hsub⟩
  clear hs
  rintro Γ ⟨st, gm, q, rfl, hs, hgm⟩
  refine wss_fz q ?_
  refine wss_cons ?_
  refine ws_mid (fun Γ => ∃ (st : D) (km : List Str) (q : Addr), Γ = ⟨[none, some (.ref p), some (.int m), some (.lst (ws.map D.str)), some (.lst (N.map D.str)), some (.lst (O'.map D.str)), some (.int v), some (.lst (L.map encRow)), some (.lst (G.map D.str)), some (.lst (K.map D.str)), some (.lst (F'.map D.str)), a, b, some (.lst (gm.map D.str)), some (.ref q), none, none, none, none, none, none, none, none, none, none], [(q, .lst (km.map D.str)), (p, st)], []⟩ ∧ DrawSt st ∧ km.Sublist F') ?_ ?_
  · refine ws_setLc' (i := 14) hst (own := [("name", 11)]) (by rw [nm.N]; rfl) (by rw [nm.sc]; rfl) (nm.swaps (by decide +kernel)) (nm.blk (by decide +kernel)) (fun _ => rfl) rfl ?_
    row_cond go
    refine lc_name1 hX (by rw [nm.N]; rfl) (by first | exact .inl rfl | exact .inr rfl) (fun i acc M' => ∃ (ys : List Str) (st : D), acc = ys.map D.str ∧ M' = [(p, st)] ∧ ys.Sublist (F'.take i) ∧ DrawSt st) ⟨[], _, rfl, rfl, .slnil, hs⟩ (fun c j acc M' h => .self _) (fun c i x acc M' hx hW => ?_) (fun c acc M' hW => ?_)
    · obtain ⟨ys, st, rfl, rfl, hsub, hs⟩ := hW
      rw [List.getElem?_map] at hx
      obtain ⟨y, hy, rfl⟩ := Option.map_eq_some_iff.mp hx
      have hyl := hsub.length_le
      rw [List.length_take] at hyl
      have e : F'.take (i + 1) = F'.take i ++ [y] := by rw [List.take_add_one, hy]; rfl
      have esub : ys.Sublist (F'.take (i + 1)) := by rw [e]; exact hsub.trans (List.sublist_append_left _ _)
      refine put_go (fun X' hb => ?_)
      have hX_X' := hb.inn hX
      have hst_X' := hX_X'.std
      have n_name_X' : NameAt X' 11 "name" := hb.name (by rw [nm.N]; rfl) (by first | exact .inl rfl | exact .inr (.inl rfl) | exact .inr (.inr rfl)) (by decide) (by decide)
      have s_name_X' : StoreAt X' 11 "name" := hb.store (by rw [nm.N]; rfl) (by first | exact .inl rfl | exact .inr rfl)
      have n_gone_more_X' : NameAt X' 13 "gone_more" := hb.name (by rw [nm.N]; rfl) (by first | exact .inl rfl | exact .inr (.inl rfl) | exact .inr (.inr rfl)) (by decide) (by decide)
      have g_law_next_X' : Gl X' "_law_next" := hb.gl rfl
      have n_state_X' : NameAt X' 1 "state" := hb.name (by rw [nm.N]; rfl) (by first | exact .inl rfl | exact .inr (.inl rfl) | exact .inr (.inr rfl)) (by decide) (by decide)
      row_cond go
      · rename_i hn r s2 hr hr' hs2 hz X2 hb2
        have hX_X2 := hb2.inn hX
        have hst_X2 := hX_X2.std
        have n_name_X2 : NameAt X2 11 "name" := hb2.name (by rw [nm.N]; rfl) (by first | exact .inl rfl | exact .inr (.inl rfl) | exact .inr (.inr rfl)) (by decide) (by decide)
        have s_name_X2 : StoreAt X2 11 "name" := hb2.store (by rw [nm.N]; rfl) (by first | exact .inl rfl | exact .inr rfl)
        have n_gone_more_X2 : NameAt X2 13 "gone_more" := hb2.name (by rw [nm.N]; rfl) (by first | exact .inl rfl | exact .inr (.inl rfl) | exact .inr (.inr rfl)) (by decide) (by decide)
        have g_law_next_X2 : Gl X2 "_law_next" := hb2.gl rfl
        have n_state_X2 : NameAt X2 1 "state" := hb2.name (by rw [nm.N]; rfl) (by first | exact .inl rfl | exact .inr (.inl rfl) | exact .inr (.inr rfl)) (by decide) (by decide)
        row_cond go
        refine lcend_id (by rw [List.length_map]; show _ < 16777216; omega) ⟨ys ++ [y], _, by rw [List.map_append]; rfl, rfl, ?_, hs2⟩
        rw [e]; exact hsub.append (.refl _)
      all_goals exact ⟨_, _, rfl, ys, _, rfl, rfl, esub, by assumption⟩
    · obtain ⟨ys, st, rfl, rfl, hsub, hs⟩ := hW
      rw [List.length_map, List.take_length] at hsub
      row_cond go
      exact ⟨_, _, _, rfl, hs, hsub⟩
  clear hs
  rintro Γ ⟨st, km, q, rfl, hs, hkm⟩
  refine wss_fz q ?_
  have P : Part N G K F' gm km := by
    have nd := hp.nodup_iff.mpr hNd
    rw [List.nodup_append, List.nodup_append] at nd
    obtain ⟨⟨_, _, d1⟩, _, d2⟩ := nd
    refine ⟨fun n h => hp.mem_iff.mp (by simp [h]), fun n h => hp.mem_iff.mp (by simp [h]), fun n h => hp.mem_iff.mp (by simp [h]), fun n h => ?_, fun n h z => d1 n h n z rfl, fun n h z => d2 n (List.mem_append_left _ h) n z rfl, fun n h z => d2 n (List.mem_append_right _ h) n z rfl, fun n h => hgm.subset h, fun n h => hkm.subset h⟩
    have := hp.mem_iff.mpr h
    simp only [List.mem_append] at this
    rcases this with (h | h) | h
    · exact .inl h
    · exact .inr (.inl h)
    · exact .inr (.inr h)
  have hgml := hgm.length_le
  have hkml := hkm.length_le
  refine wss_cons ?_
  refine ws_mid (fun Γ => ∃ (st : D) (pp : Addr) (Ls : List (List Str)) (ns gs ks : List Str), Γ = ⟨[none, some (.ref p), some (.int m), some (.lst (ws.map D.str)), some (.lst (N.map D.str)), some (.lst (O'.map D.str)), some (.int v), some (.lst (L.map encRow)), some (.lst (G.map D.str)), some (.lst (K.map D.str)), some (.lst (F'.map D.str)), a, b, some (.lst (gm.map D.str)), some (.lst (km.map D.str)), some (.lst (Ls.map encL)), none, none, none, none, none, none, none, none, none], [(p, st)], []⟩ ∧ DrawSt st ∧ Ls.length ≤ 1000 ∧ (∀ l ∈ Ls, l.length ≤ 400 ∧ ∀ n ∈ l, n ∈ F')) ?_ ?_
  · row_cond go
    rename_i Ls s6 h1 h2 hs6
    exact ⟨_, p, Ls, [], [], [], rfl, hs6, h1, h2⟩
  clear hs
  rintro Γ ⟨st, _, Ls, _, _, _, rfl, hs, hLs, hLs2⟩
  refine wss_cons ?_
  refine ws_mid (fun Γ => ∃ (st : D) (pp : Addr) (ns gs ks : List Str), Γ = ⟨[none, some (.ref p), some (.int m), some (.lst (ws.map D.str)), some (.lst (N.map D.str)), some (.lst (O'.map D.str)), some (.int v), some (.lst (L.map encRow)), some (.lst (G.map D.str)), some (.lst (K.map D.str)), some (.lst (F'.map D.str)), a, b, some (.lst (gm.map D.str)), some (.lst (km.map D.str)), some (.lst (Ls.map encL)), some (.ref pp), none, none, none, none, none, none, none, none], [(pp, .lst [.lst (L.map encRow), .lst (ns.map D.str), .lst (gs.map D.str), .lst (ks.map D.str)]), (p, st)], []⟩ ∧ DrawSt st ∧ ns.Perm N ∧ gs.Perm G ∧ ks.Perm K) ?_ ?_
  · row_cond go
    rename_i pl ns s7 h1 hs7 gs s8 h2 hs8 ks s9 h3 hs9 pp
    exact ⟨_, _, ns, gs, ks, rfl, hs9, h1, h2, h3⟩
  clear hs
  rintro Γ ⟨st, pp, ns, gs, ks, rfl, hs, hns, hgs, hks⟩
  exact law_tail T c_law_names c_law_next c_law_ledger c_law_lots c_law_reduced c_reduced c_law_turned c_law_is c_law_freed c_freed X F hX nm p pp st m v ws N O' G K F' gm km ns gs ks L Ls a b hs hL P hns hgs hks hLs hLs2 hN25 hGl hKl hFl (Nat.le_trans hgml hFl) (Nat.le_trans hkml hFl)

end K50


namespace K50
open PySem PySem.Spec PyProof.Rows L2 DL
theorem all_mk {l : PySem.W.OpenLaw} {w : World} {K : PySem.W.Frag} {h : Heap} {mg : Str → Option Value} {fa : Addr} (X : K.In h) (G : h.Ns mainGlobals mg) (hfa : mg "law" = some (.ref fa))
    {f_make_lot : Addr} {od_make_lot an_make_lot : Option Addr} {sl_make_lot : Array (Option Value)} {oc_make_lot kV_make_lot dc_make_lot pm_make_lot cd_make_lot ct_make_lot : Value}
    (a_make_lot : PySem.W.nsIn K mainGlobals "make_lot" = some (some (.ref f_make_lot))) (l_make_lot : K.lookup f_make_lot = some ⟨oc_make_lot, od_make_lot, .func (PySem.W.fnOf "make_lot" "make_lot" (defArgs s_make_lot) (defBody s_make_lot) (defScope s_make_lot) .none kV_make_lot dc_make_lot pm_make_lot an_make_lot cd_make_lot ct_make_lot), sl_make_lot⟩) (c_make_lot : PySem.W.codeIn K cd_make_lot "make_lot" = true) (k_make_lot : PySem.W.keepIn K (.ref f_make_lot) = true)
    {f_make_ledger : Addr} {od_make_ledger an_make_ledger : Option Addr} {sl_make_ledger : Array (Option Value)} {oc_make_ledger kV_make_ledger dc_make_ledger pm_make_ledger cd_make_ledger ct_make_ledger : Value}
    (a_make_ledger : PySem.W.nsIn K mainGlobals "make_ledger" = some (some (.ref f_make_ledger))) (l_make_ledger : K.lookup f_make_ledger = some ⟨oc_make_ledger, od_make_ledger, .func (PySem.W.fnOf "make_ledger" "make_ledger" (defArgs s_make_ledger) (defBody s_make_ledger) (defScope s_make_ledger) .none kV_make_ledger dc_make_ledger pm_make_ledger an_make_ledger cd_make_ledger ct_make_ledger), sl_make_ledger⟩) (c_make_ledger : PySem.W.codeIn K cd_make_ledger "make_ledger" = true) (k_make_ledger : PySem.W.keepIn K (.ref f_make_ledger) = true)
    {f_freed : Addr} {od_freed an_freed : Option Addr} {sl_freed : Array (Option Value)} {oc_freed kV_freed dc_freed pm_freed cd_freed ct_freed : Value}
    (a_freed : PySem.W.nsIn K mainGlobals "freed" = some (some (.ref f_freed))) (l_freed : K.lookup f_freed = some ⟨oc_freed, od_freed, .func (PySem.W.fnOf "freed" "freed" (defArgs s_freed) (defBody s_freed) (defScope s_freed) .none kV_freed dc_freed pm_freed an_freed cd_freed ct_freed), sl_freed⟩) (c_freed : PySem.W.codeIn K cd_freed "freed" = true) (k_freed : PySem.W.keepIn K (.ref f_freed) = true)
    {f_reduced : Addr} {od_reduced an_reduced : Option Addr} {sl_reduced : Array (Option Value)} {oc_reduced kV_reduced dc_reduced pm_reduced cd_reduced ct_reduced : Value}
    (a_reduced : PySem.W.nsIn K mainGlobals "reduced" = some (some (.ref f_reduced))) (l_reduced : K.lookup f_reduced = some ⟨oc_reduced, od_reduced, .func (PySem.W.fnOf "reduced" "reduced" (defArgs s_reduced) (defBody s_reduced) (defScope s_reduced) .none kV_reduced dc_reduced pm_reduced an_reduced cd_reduced ct_reduced), sl_reduced⟩) (c_reduced : PySem.W.codeIn K cd_reduced "reduced" = true) (k_reduced : PySem.W.keepIn K (.ref f_reduced) = true)
    {f_law_mix : Addr} {od_law_mix an_law_mix : Option Addr} {sl_law_mix : Array (Option Value)} {oc_law_mix kV_law_mix dc_law_mix pm_law_mix cd_law_mix ct_law_mix : Value}
    (a_law_mix : PySem.W.nsIn K mainGlobals "_law_mix" = some (some (.ref f_law_mix))) (l_law_mix : K.lookup f_law_mix = some ⟨oc_law_mix, od_law_mix, .func (PySem.W.fnOf "_law_mix" "_law_mix" (defArgs s_law_mix) (defBody s_law_mix) (defScope s_law_mix) .none kV_law_mix dc_law_mix pm_law_mix an_law_mix cd_law_mix ct_law_mix), sl_law_mix⟩) (c_law_mix : PySem.W.codeIn K cd_law_mix "_law_mix" = true) (k_law_mix : PySem.W.keepIn K (.ref f_law_mix) = true)
    {f_law_start : Addr} {od_law_start an_law_start : Option Addr} {sl_law_start : Array (Option Value)} {oc_law_start kV_law_start dc_law_start pm_law_start cd_law_start ct_law_start : Value}
    (a_law_start : PySem.W.nsIn K mainGlobals "_law_start" = some (some (.ref f_law_start))) (l_law_start : K.lookup f_law_start = some ⟨oc_law_start, od_law_start, .func (PySem.W.fnOf "_law_start" "_law_start" (defArgs s_law_start) (defBody s_law_start) (defScope s_law_start) .none kV_law_start dc_law_start pm_law_start an_law_start cd_law_start ct_law_start), sl_law_start⟩) (c_law_start : PySem.W.codeIn K cd_law_start "_law_start" = true) (k_law_start : PySem.W.keepIn K (.ref f_law_start) = true)
    {f_law_next : Addr} {od_law_next an_law_next : Option Addr} {sl_law_next : Array (Option Value)} {oc_law_next kV_law_next dc_law_next pm_law_next cd_law_next ct_law_next : Value}
    (a_law_next : PySem.W.nsIn K mainGlobals "_law_next" = some (some (.ref f_law_next))) (l_law_next : K.lookup f_law_next = some ⟨oc_law_next, od_law_next, .func (PySem.W.fnOf "_law_next" "_law_next" (defArgs s_law_next) (defBody s_law_next) (defScope s_law_next) .none kV_law_next dc_law_next pm_law_next an_law_next cd_law_next ct_law_next), sl_law_next⟩) (c_law_next : PySem.W.codeIn K cd_law_next "_law_next" = true) (k_law_next : PySem.W.keepIn K (.ref f_law_next) = true)
    {f_law_is : Addr} {od_law_is an_law_is : Option Addr} {sl_law_is : Array (Option Value)} {oc_law_is kV_law_is dc_law_is pm_law_is cd_law_is ct_law_is : Value}
    (a_law_is : PySem.W.nsIn K mainGlobals "_law_is" = some (some (.ref f_law_is))) (l_law_is : K.lookup f_law_is = some ⟨oc_law_is, od_law_is, .func (PySem.W.fnOf "_law_is" "_law_is" (defArgs s_law_is) (defBody s_law_is) (defScope s_law_is) .none kV_law_is dc_law_is pm_law_is an_law_is cd_law_is ct_law_is), sl_law_is⟩) (c_law_is : PySem.W.codeIn K cd_law_is "_law_is" = true) (k_law_is : PySem.W.keepIn K (.ref f_law_is) = true)
    {f_law_names : Addr} {od_law_names an_law_names : Option Addr} {sl_law_names : Array (Option Value)} {oc_law_names kV_law_names dc_law_names pm_law_names cd_law_names ct_law_names : Value}
    (a_law_names : PySem.W.nsIn K mainGlobals "_law_names" = some (some (.ref f_law_names))) (l_law_names : K.lookup f_law_names = some ⟨oc_law_names, od_law_names, .func (PySem.W.fnOf "_law_names" "_law_names" (defArgs s_law_names) (defBody s_law_names) (defScope s_law_names) .none kV_law_names dc_law_names pm_law_names an_law_names cd_law_names ct_law_names), sl_law_names⟩) (c_law_names : PySem.W.codeIn K cd_law_names "_law_names" = true) (k_law_names : PySem.W.keepIn K (.ref f_law_names) = true)
    {f_law_lot : Addr} {od_law_lot an_law_lot : Option Addr} {sl_law_lot : Array (Option Value)} {oc_law_lot kV_law_lot dc_law_lot pm_law_lot cd_law_lot ct_law_lot : Value}
    (a_law_lot : PySem.W.nsIn K mainGlobals "_law_lot" = some (some (.ref f_law_lot))) (l_law_lot : K.lookup f_law_lot = some ⟨oc_law_lot, od_law_lot, .func (PySem.W.fnOf "_law_lot" "_law_lot" (defArgs s_law_lot) (defBody s_law_lot) (defScope s_law_lot) .none kV_law_lot dc_law_lot pm_law_lot an_law_lot cd_law_lot ct_law_lot), sl_law_lot⟩) (c_law_lot : PySem.W.codeIn K cd_law_lot "_law_lot" = true) (k_law_lot : PySem.W.keepIn K (.ref f_law_lot) = true)
    {f_law_ledger : Addr} {od_law_ledger an_law_ledger : Option Addr} {sl_law_ledger : Array (Option Value)} {oc_law_ledger kV_law_ledger dc_law_ledger pm_law_ledger cd_law_ledger ct_law_ledger : Value}
    (a_law_ledger : PySem.W.nsIn K mainGlobals "_law_ledger" = some (some (.ref f_law_ledger))) (l_law_ledger : K.lookup f_law_ledger = some ⟨oc_law_ledger, od_law_ledger, .func (PySem.W.fnOf "_law_ledger" "_law_ledger" (defArgs s_law_ledger) (defBody s_law_ledger) (defScope s_law_ledger) .none kV_law_ledger dc_law_ledger pm_law_ledger an_law_ledger cd_law_ledger ct_law_ledger), sl_law_ledger⟩) (c_law_ledger : PySem.W.codeIn K cd_law_ledger "_law_ledger" = true) (k_law_ledger : PySem.W.keepIn K (.ref f_law_ledger) = true)
    {f_law_turned : Addr} {od_law_turned an_law_turned : Option Addr} {sl_law_turned : Array (Option Value)} {oc_law_turned kV_law_turned dc_law_turned pm_law_turned cd_law_turned ct_law_turned : Value}
    (a_law_turned : PySem.W.nsIn K mainGlobals "_law_turned" = some (some (.ref f_law_turned))) (l_law_turned : K.lookup f_law_turned = some ⟨oc_law_turned, od_law_turned, .func (PySem.W.fnOf "_law_turned" "_law_turned" (defArgs s_law_turned) (defBody s_law_turned) (defScope s_law_turned) .none kV_law_turned dc_law_turned pm_law_turned an_law_turned cd_law_turned ct_law_turned), sl_law_turned⟩) (c_law_turned : PySem.W.codeIn K cd_law_turned "_law_turned" = true) (k_law_turned : PySem.W.keepIn K (.ref f_law_turned) = true)
    {f_law_reduced : Addr} {od_law_reduced an_law_reduced : Option Addr} {sl_law_reduced : Array (Option Value)} {oc_law_reduced kV_law_reduced dc_law_reduced pm_law_reduced cd_law_reduced ct_law_reduced : Value}
    (a_law_reduced : PySem.W.nsIn K mainGlobals "_law_reduced" = some (some (.ref f_law_reduced))) (l_law_reduced : K.lookup f_law_reduced = some ⟨oc_law_reduced, od_law_reduced, .func (PySem.W.fnOf "_law_reduced" "_law_reduced" (defArgs s_law_reduced) (defBody s_law_reduced) (defScope s_law_reduced) .none kV_law_reduced dc_law_reduced pm_law_reduced an_law_reduced cd_law_reduced ct_law_reduced), sl_law_reduced⟩) (c_law_reduced : PySem.W.codeIn K cd_law_reduced "_law_reduced" = true) (k_law_reduced : PySem.W.keepIn K (.ref f_law_reduced) = true)
    {f_law_freed : Addr} {od_law_freed an_law_freed : Option Addr} {sl_law_freed : Array (Option Value)} {oc_law_freed kV_law_freed dc_law_freed pm_law_freed cd_law_freed ct_law_freed : Value}
    (a_law_freed : PySem.W.nsIn K mainGlobals "_law_freed" = some (some (.ref f_law_freed))) (l_law_freed : K.lookup f_law_freed = some ⟨oc_law_freed, od_law_freed, .func (PySem.W.fnOf "_law_freed" "_law_freed" (defArgs s_law_freed) (defBody s_law_freed) (defScope s_law_freed) .none kV_law_freed dc_law_freed pm_law_freed an_law_freed cd_law_freed ct_law_freed), sl_law_freed⟩) (c_law_freed : PySem.W.codeIn K cd_law_freed "_law_freed" = true) (k_law_freed : PySem.W.keepIn K (.ref f_law_freed) = true)
    {f_law_lots : Addr} {od_law_lots an_law_lots : Option Addr} {sl_law_lots : Array (Option Value)} {oc_law_lots kV_law_lots dc_law_lots pm_law_lots cd_law_lots ct_law_lots : Value}
    (a_law_lots : PySem.W.nsIn K mainGlobals "_law_lots" = some (some (.ref f_law_lots))) (l_law_lots : K.lookup f_law_lots = some ⟨oc_law_lots, od_law_lots, .func (PySem.W.fnOf "_law_lots" "_law_lots" (defArgs s_law_lots) (defBody s_law_lots) (defScope s_law_lots) .none kV_law_lots dc_law_lots pm_law_lots an_law_lots cd_law_lots ct_law_lots), sl_law_lots⟩) (c_law_lots : PySem.W.codeIn K cd_law_lots "_law_lots" = true) (k_law_lots : PySem.W.keepIn K (.ref f_law_lots) = true)
    {f_law : Addr} {od_law an_law : Option Addr} {sl_law : Array (Option Value)} {oc_law kV_law dc_law pm_law cd_law ct_law : Value}
    (a_law : PySem.W.nsIn K mainGlobals "law" = some (some (.ref f_law))) (l_law : K.lookup f_law = some ⟨oc_law, od_law, .func (PySem.W.fnOf "law" "law" (defArgs s_law) (defBody s_law) (defScope s_law) .none kV_law dc_law pm_law an_law cd_law ct_law), sl_law⟩) (c_law : PySem.W.codeIn K cd_law "law" = true) (k_law : PySem.W.keepIn K (.ref f_law) = true)
    (z_abs : PySem.W.nsIn K mainGlobals "abs" = some none)
    (z_all : PySem.W.nsIn K mainGlobals "all" = some none)
    (z_bool : PySem.W.nsIn K mainGlobals "bool" = some none)
    (z_dict : PySem.W.nsIn K mainGlobals "dict" = some none)
    (z_int : PySem.W.nsIn K mainGlobals "int" = some none)
    (z_isinstance : PySem.W.nsIn K mainGlobals "isinstance" = some none)
    (z_len : PySem.W.nsIn K mainGlobals "len" = some none)
    (z_list : PySem.W.nsIn K mainGlobals "list" = some none)
    (z_range : PySem.W.nsIn K mainGlobals "range" = some none)
    (z_set : PySem.W.nsIn K mainGlobals "set" = some none)
    (z_sorted : PySem.W.nsIn K mainGlobals "sorted" = some none)
    (z_str : PySem.W.nsIn K mainGlobals "str" = some none)
    (z_sum : PySem.W.nsIn K mainGlobals "sum" = some none)
    (z_tuple : PySem.W.nsIn K mainGlobals "tuple" = some none)
    : ∃ fd : FuncData, (∀ (s : Shared) (v : Value), BindsTo s fd ⟨[v], []⟩ [("script", v)]) ∧ ∀ base : Heap, K.In base → base.Ns mainGlobals mg → FnOk l.prog w K mg base CX0 6 fa fd ["script"] (spLaw K) := by
  have e := hfa.symm.trans (PySem.W.mg_of X G a_law)
  cases e
  have F_law := fun_mk (st := s_law) l_law c_law k_law
  have F_law_start := fun_mk (st := s_law_start) l_law_start c_law_start k_law_start
  have D_make_lot : DefAt K mg "make_lot" s_make_lot := ⟨_, _, fun_mk (st := s_make_lot) l_make_lot c_make_lot k_make_lot, PySem.W.mg_of X G a_make_lot⟩
  have D_make_ledger : DefAt K mg "make_ledger" s_make_ledger := ⟨_, _, fun_mk (st := s_make_ledger) l_make_ledger c_make_ledger k_make_ledger, PySem.W.mg_of X G a_make_ledger⟩
  have D_freed : DefAt K mg "freed" s_freed := ⟨_, _, fun_mk (st := s_freed) l_freed c_freed k_freed, PySem.W.mg_of X G a_freed⟩
  have D_reduced : DefAt K mg "reduced" s_reduced := ⟨_, _, fun_mk (st := s_reduced) l_reduced c_reduced k_reduced, PySem.W.mg_of X G a_reduced⟩
  have D_law_mix : DefAt K mg "_law_mix" s_law_mix := ⟨_, _, fun_mk (st := s_law_mix) l_law_mix c_law_mix k_law_mix, PySem.W.mg_of X G a_law_mix⟩
  have D_law_next : DefAt K mg "_law_next" s_law_next := ⟨_, _, fun_mk (st := s_law_next) l_law_next c_law_next k_law_next, PySem.W.mg_of X G a_law_next⟩
  have D_law_is : DefAt K mg "_law_is" s_law_is := ⟨_, _, fun_mk (st := s_law_is) l_law_is c_law_is k_law_is, PySem.W.mg_of X G a_law_is⟩
  have D_law_names : DefAt K mg "_law_names" s_law_names := ⟨_, _, fun_mk (st := s_law_names) l_law_names c_law_names k_law_names, PySem.W.mg_of X G a_law_names⟩
  have D_law_lot : DefAt K mg "_law_lot" s_law_lot := ⟨_, _, fun_mk (st := s_law_lot) l_law_lot c_law_lot k_law_lot, PySem.W.mg_of X G a_law_lot⟩
  have D_law_ledger : DefAt K mg "_law_ledger" s_law_ledger := ⟨_, _, fun_mk (st := s_law_ledger) l_law_ledger c_law_ledger k_law_ledger, PySem.W.mg_of X G a_law_ledger⟩
  have D_law_turned : DefAt K mg "_law_turned" s_law_turned := ⟨_, _, fun_mk (st := s_law_turned) l_law_turned c_law_turned k_law_turned, PySem.W.mg_of X G a_law_turned⟩
  have D_law_reduced : DefAt K mg "_law_reduced" s_law_reduced := ⟨_, _, fun_mk (st := s_law_reduced) l_law_reduced c_law_reduced k_law_reduced, PySem.W.mg_of X G a_law_reduced⟩
  have D_law_freed : DefAt K mg "_law_freed" s_law_freed := ⟨_, _, fun_mk (st := s_law_freed) l_law_freed c_law_freed k_law_freed, PySem.W.mg_of X G a_law_freed⟩
  have D_law_lots : DefAt K mg "_law_lots" s_law_lots := ⟨_, _, fun_mk (st := s_law_lots) l_law_lots c_law_lots k_law_lots, PySem.W.mg_of X G a_law_lots⟩
  have T : Tx mg := ⟨PySem.W.mg_none_of X G z_abs, PySem.W.mg_none_of X G z_all, PySem.W.mg_none_of X G z_bool, PySem.W.mg_none_of X G z_dict, PySem.W.mg_none_of X G z_int, PySem.W.mg_none_of X G z_isinstance, PySem.W.mg_none_of X G z_len, PySem.W.mg_none_of X G z_list, PySem.W.mg_none_of X G z_range, PySem.W.mg_none_of X G z_set, PySem.W.mg_none_of X G z_sorted, PySem.W.mg_none_of X G z_str, PySem.W.mg_none_of X G z_sum, PySem.W.mg_none_of X G z_tuple⟩
  refine ⟨_, fun s v => ?_, fun base _ _ => ok_law T F_law F_law_start (PySem.W.mg_of X G a_law_start) (by decide) ?_⟩
  · exact .of_eq rfl
  · have c_law_mix := cal_law_mix (P := l.prog) (w := w) (base := base) T D_law_mix
    have c_law_next := cal_law_next T D_law_next c_law_mix
    have c_law_is := cal_law_isS T D_law_is (cal_law_isS T D_law_is (cal_law_isS T D_law_is (cal_law_isS T D_law_is (cal_law_is0 (P := l.prog) (w := w) (base := base) T D_law_is))))
    have c_make_lot := cal_make_lot (P := l.prog) (w := w) (base := base) T D_make_lot
    have c_reduced := cal_reduced T D_reduced (cal_make_ledger T D_make_ledger c_make_lot)
    have c_freed := cal_freed (P := l.prog) (w := w) (base := base) T D_freed
    have c_law_reduced := cal_law_reduced (P := l.prog) (w := w) (base := base) T D_law_reduced
    have c_law_freed := cal_law_freed (P := l.prog) (w := w) (base := base) T D_law_freed
    have c_law_turned := cal_law_turned T D_law_turned c_law_next
    have c_law_lot := cal_law_lot T D_law_lot c_law_next
    have c_law_ledger := cal_law_ledger T D_law_ledger c_law_lot c_law_next
    have c_law_lots := cal_law_lots T D_law_lots c_law_next
    have c_law_names := cal_law_names T D_law_names c_law_next
    exact law_rest T c_law_names c_law_next c_law_ledger c_law_lots c_law_reduced c_reduced c_law_turned c_law_is c_law_freed c_freed

end K50
open PySem PySem.W PyProof.Rows
set_option maxHeartbeats 0 in
theorem PySem.Challenge.cw_whatcomesfree_k50_reduced_cases_holds : PySem.Challenge.rw_whatcomesfree_k50_reduced_cases.Holds := by
  w_on; o_law; k_head; (case hw => w_witness2)
  k_fill
  refine L2.walk_of (l := PySem.Challenge.rw_whatcomesfree_k50_reduced_cases) (n := 63) (k := 6) (x := "script") (CX := fun _ => L2.CX0) (sp := fun w => DL.spLaw _) rfl (by decide) rfl ⟨rfl, by decide, by decide⟩ (fun w h Y => PySem.W.kIn_of Y) ?F (fun _ _ a ns hl _ hS => ⟨a, ns, rfl, hS, hl, fun _ => rfl⟩) (fun _ _ _ _ _ h => h)
  case F =>
    intro w mg fa h KX G hmg
    refine' K50.all_mk KX G hmg ?a_make_lot ?l_make_lot ?c_make_lot ?k_make_lot ?a_make_ledger ?l_make_ledger ?c_make_ledger ?k_make_ledger ?a_freed ?l_freed ?c_freed ?k_freed ?a_reduced ?l_reduced ?c_reduced ?k_reduced ?a_law_mix ?l_law_mix ?c_law_mix ?k_law_mix ?a_law_start ?l_law_start ?c_law_start ?k_law_start ?a_law_next ?l_law_next ?c_law_next ?k_law_next ?a_law_is ?l_law_is ?c_law_is ?k_law_is ?a_law_names ?l_law_names ?c_law_names ?k_law_names ?a_law_lot ?l_law_lot ?c_law_lot ?k_law_lot ?a_law_ledger ?l_law_ledger ?c_law_ledger ?k_law_ledger ?a_law_turned ?l_law_turned ?c_law_turned ?k_law_turned ?a_law_reduced ?l_law_reduced ?c_law_reduced ?k_law_reduced ?a_law_freed ?l_law_freed ?c_law_freed ?k_law_freed ?a_law_lots ?l_law_lots ?c_law_lots ?k_law_lots ?a_law ?l_law ?c_law ?k_law ?z_abs ?z_all ?z_bool ?z_dict ?z_int ?z_isinstance ?z_len ?z_list ?z_range ?z_set ?z_sorted ?z_str ?z_sum ?z_tuple
    (case a_make_lot => k_is); (case l_make_lot => k_is); (case c_make_lot => k_is); (case k_make_lot => k_is); (case a_make_ledger => k_is); (case l_make_ledger => k_is); (case c_make_ledger => k_is); (case k_make_ledger => k_is); (case a_freed => k_is); (case l_freed => k_is); (case c_freed => k_is); (case k_freed => k_is); (case a_reduced => k_is); (case l_reduced => k_is); (case c_reduced => k_is); (case k_reduced => k_is); (case a_law_mix => k_is); (case l_law_mix => k_is); (case c_law_mix => k_is); (case k_law_mix => k_is); (case a_law_start => k_is); (case l_law_start => k_is); (case c_law_start => k_is); (case k_law_start => k_is); (case a_law_next => k_is); (case l_law_next => k_is); (case c_law_next => k_is); (case k_law_next => k_is); (case a_law_is => k_is); (case l_law_is => k_is); (case c_law_is => k_is); (case k_law_is => k_is); (case a_law_names => k_is); (case l_law_names => k_is); (case c_law_names => k_is); (case k_law_names => k_is); (case a_law_lot => k_is); (case l_law_lot => k_is); (case c_law_lot => k_is); (case k_law_lot => k_is); (case a_law_ledger => k_is); (case l_law_ledger => k_is); (case c_law_ledger => k_is); (case k_law_ledger => k_is); (case a_law_turned => k_is); (case l_law_turned => k_is); (case c_law_turned => k_is); (case k_law_turned => k_is); (case a_law_reduced => k_is); (case l_law_reduced => k_is); (case c_law_reduced => k_is); (case k_law_reduced => k_is); (case a_law_freed => k_is); (case l_law_freed => k_is); (case c_law_freed => k_is); (case k_law_freed => k_is); (case a_law_lots => k_is); (case l_law_lots => k_is); (case c_law_lots => k_is); (case k_law_lots => k_is); (case a_law => k_is); (case l_law => k_is); (case c_law => k_is); (case k_law => k_is); (case z_abs => k_is); (case z_all => k_is); (case z_bool => k_is); (case z_dict => k_is); (case z_int => k_is); (case z_isinstance => k_is); (case z_len => k_is); (case z_list => k_is); (case z_range => k_is); (case z_set => k_is); (case z_sorted => k_is); (case z_str => k_is); (case z_sum => k_is); (case z_tuple => k_is)


