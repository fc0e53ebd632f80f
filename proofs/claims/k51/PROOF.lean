import PyProof.Rows.All
import Wide.All
import OpenK.AllK
import Wide.FinOn
import HandS.ForMost
import HandS.ForExc
import HandS.Wide
import HandS.IsInst
import HandS.TupAny
import HandS.Star
import PySem.Challenge.RW_oncekinds_k51_counts_by_a_table
set_option Elab.async false
set_option linter.all false
set_option maxRecDepth 100000
set_option maxHeartbeats 4000000
/-! OD1: deep data D over the hand layer: what stands for what, and how a step keeps it. -/
namespace OD
open PySem PySem.Spec L2

/-- data: what a value is, all the way down; ref a: an object that is known by its address alone (an owned one, a def, a class) -/
inductive D where
  | non | bl (b : Bool) | int (i : Int) | str (x : Str) | ref (a : Addr) | ty (n : String) | scr (ns : List Int)
  | tup (xs : List D) | lst (xs : List D) | dic (kvs : List (Key × D)) | obj (C : Addr) (fs : List (Str × D))

abbrev Mark := Addr → Prop

def TupAt (K : PySem.W.Frag) (S : Mark) (H : Hp) (a : Addr) (vs : List V) : Prop :=
  (¬ S a ∧ H a = some (.tup vs)) ∨
    ∃ (o : Obj) (its : Array Value) (n : Nat), K.lookup a = some o ∧ o.cls = .type "tuple" ∧ o.data = .seq its n ∧ its.size ≤ sizeLine ∧ Vals vs its.toList
theorem TupAt.sq {K : PySem.W.Frag} {S : Mark} {H : Hp} {a : Addr} {vs : List V} (h : TupAt K S H a vs) : SqT K H a vs := by
  rcases h with ⟨_, h⟩ | h
  · exact .inl (.inl h)
  · exact .inr h

/-- a list that is read alone: the script -/
def ScrAt (K : PySem.W.Frag) (S : Mark) (H : Hp) (a : Addr) (vs : List V) : Prop :=
  (¬ S a ∧ Rd H a (.lst vs)) ∨
    ∃ (o : Obj) (its : Array Value) (n : Nat), K.lookup a = some o ∧ o.cls = .type "list" ∧ o.dict = none ∧ o.data = .seq its n ∧ its.size ≤ sizeLine ∧ Vals vs its.toList
theorem ScrAt.sq {K : PySem.W.Frag} {S : Mark} {H : Hp} {a : Addr} {vs : List V} (h : ScrAt K S H a vs) : SqL K H a vs := by
  rcases h with ⟨_, h⟩ | h
  · exact .inl h
  · exact .inr h

mutual
inductive Rep (K : PySem.W.Frag) (S : Mark) (H : Hp) : V → D → Prop
  | non : Rep K S H .non .non
  | bl (b : Bool) : Rep K S H (.bl b) (.bl b)
  | int (i : Int) : Rep K S H (.int i) (.int i)
  | str (x : Str) : Rep K S H (.str x) (.str x)
  | ref (a : Addr) : Rep K S H (.ref a) (.ref a)
  | ty (n : String) : Rep K S H (.ty n) (.ty n)
  | scr {a : Addr} {ns : List Int} : ScrAt K S H a (ns.map V.int) → Rep K S H (.ref a) (.scr ns)
  | tup {a : Addr} {vs : List V} {ds : List D} : TupAt K S H a vs → Reps K S H vs ds → Rep K S H (.ref a) (.tup ds)
  | lst {a : Addr} {vs : List V} {ds : List D} : ¬ S a → H a = some (.lst vs) → Reps K S H vs ds → Rep K S H (.ref a) (.lst ds)
  | dic {a : Addr} {ws : List (Key × V)} {kvs : List (Key × D)} : ¬ S a → H a = some (.dK ws) → RepsK K S H ws kvs → Rep K S H (.ref a) (.dic kvs)
  | obj {a C dx : Addr} {ws : List (Str × V)} {fs : List (Str × D)} : ¬ S a → H a = some (.ins C dx ws) → RepsF K S H ws fs → Rep K S H (.ref a) (.obj C fs)
inductive Reps (K : PySem.W.Frag) (S : Mark) (H : Hp) : List V → List D → Prop
  | nil : Reps K S H [] []
  | cons {v : V} {vs : List V} {d : D} {ds : List D} : Rep K S H v d → Reps K S H vs ds → Reps K S H (v :: vs) (d :: ds)
inductive RepsK (K : PySem.W.Frag) (S : Mark) (H : Hp) : List (Key × V) → List (Key × D) → Prop
  | nil : RepsK K S H [] []
  | cons {k : Key} {v : V} {ws : List (Key × V)} {d : D} {ds : List (Key × D)} : Rep K S H v d → RepsK K S H ws ds → RepsK K S H ((k, v) :: ws) ((k, d) :: ds)
inductive RepsF (K : PySem.W.Frag) (S : Mark) (H : Hp) : List (Str × V) → List (Str × D) → Prop
  | nil : RepsF K S H [] []
  | cons {k : Str} {v : V} {ws : List (Str × V)} {d : D} {ds : List (Str × D)} : Rep K S H v d → RepsF K S H ws ds → RepsF K S H ((k, v) :: ws) ((k, d) :: ds)
end

/-- what is not marked is kept, and not marked -/
def Kp (S : Mark) (H : Hp) (S' : Mark) (H' : Hp) : Prop := ∀ b o, H b = some o → ¬ S b → H' b = some o ∧ ¬ S' b

section
variable {K : PySem.W.Frag} {S S' : Mark} {H H' : Hp}
theorem TupAt.mono (k : Kp S H S' H') {a : Addr} {vs : List V} (h : TupAt K S H a vs) : TupAt K S' H' a vs := by
  rcases h with ⟨h1, h2⟩ | h
  · exact .inl ⟨(k a _ h2 h1).2, (k a _ h2 h1).1⟩
  · exact .inr h
theorem ScrAt.mono (k : Kp S H S' H') {a : Addr} {vs : List V} (h : ScrAt K S H a vs) : ScrAt K S' H' a vs := by
  rcases h with ⟨h1, h2 | ⟨o, h2⟩⟩ | h
  · exact .inl ⟨(k a _ h2 h1).2, .inl (k a _ h2 h1).1⟩
  · exact .inl ⟨(k a _ h2 h1).2, .inr ⟨o, (k a _ h2 h1).1⟩⟩
  · exact .inr h
mutual
theorem Rep.mono (k : Kp S H S' H') : ∀ (d : D) (v : V), Rep K S H v d → Rep K S' H' v d
  | .non, _, h => by cases h; exact .non
  | .bl _, _, h => by cases h; exact .bl _
  | .int _, _, h => by cases h; exact .int _
  | .str _, _, h => by cases h; exact .str _
  | .ref _, _, h => by cases h; exact .ref _
  | .ty _, _, h => by cases h; exact .ty _
  | .scr _, _, h => by
    cases h with
    | scr h1 => exact .scr (h1.mono k)
  | .tup ds, _, h => by
    cases h with
    | tup h1 h2 => exact .tup (h1.mono k) (Reps.mono k ds _ h2)
  | .lst ds, _, h => by
    cases h with
    | lst h1 h2 h3 => exact .lst (k _ _ h2 h1).2 (k _ _ h2 h1).1 (Reps.mono k ds _ h3)
  | .dic kvs, _, h => by
    cases h with
    | dic h1 h2 h3 => exact .dic (k _ _ h2 h1).2 (k _ _ h2 h1).1 (RepsK.mono k kvs _ h3)
  | .obj C fs, _, h => by
    cases h with
    | obj h1 h2 h3 => exact .obj (k _ _ h2 h1).2 (k _ _ h2 h1).1 (RepsF.mono k fs _ h3)
theorem Reps.mono (k : Kp S H S' H') : ∀ (ds : List D) (vs : List V), Reps K S H vs ds → Reps K S' H' vs ds
  | [], _, h => by cases h; exact .nil
  | d :: ds, _, h => by
    cases h with
    | cons a b => exact .cons (Rep.mono k d _ a) (Reps.mono k ds _ b)
theorem RepsK.mono (k : Kp S H S' H') : ∀ (ds : List (Key × D)) (vs : List (Key × V)), RepsK K S H vs ds → RepsK K S' H' vs ds
  | [], _, h => by cases h; exact .nil
  | (key, d) :: ds, _, h => by
    cases h with
    | cons a b => exact .cons (Rep.mono k d _ a) (RepsK.mono k ds _ b)
theorem RepsF.mono (k : Kp S H S' H') : ∀ (ds : List (Str × D)) (vs : List (Str × V)), RepsF K S H vs ds → RepsF K S' H' vs ds
  | [], _, h => by cases h; exact .nil
  | (key, d) :: ds, _, h => by
    cases h with
    | cons a b => exact .cons (Rep.mono k d _ a) (RepsF.mono k ds _ b)
end

/-! ### rows of data -/
theorem Reps.length : ∀ {vs : List V} {ds : List D}, Reps K S H vs ds → vs.length = ds.length := fun {vs ds} => by
  induction ds generalizing vs with
  | nil => intro h; cases h; rfl
  | cons d ds ih =>
    intro h
    cases h with
    | cons a b => rw [List.length_cons, List.length_cons, ih b]
theorem Reps.get {vs : List V} {ds : List D} (h : Reps K S H vs ds) {i : Nat} {d : D} (e : ds[i]? = some d) : ∃ v, vs[i]? = some v ∧ Rep K S H v d := by
  induction ds generalizing vs i with
  | nil => cases e
  | cons x ds ih =>
    cases h with
    | cons a b =>
      cases i with
      | zero => cases e; exact ⟨_, rfl, a⟩
      | succ i =>
        obtain ⟨v, h1, h2⟩ := ih b (i := i) e
        exact ⟨v, h1, h2⟩
theorem Reps.getV {vs : List V} {ds : List D} (h : Reps K S H vs ds) {i : Nat} {v : V} (e : vs[i]? = some v) : ∃ d, ds[i]? = some d ∧ Rep K S H v d := by
  induction ds generalizing vs i with
  | nil => cases h; cases e
  | cons x ds ih =>
    cases h with
    | cons a b =>
      cases i with
      | zero => cases e; exact ⟨_, rfl, a⟩
      | succ i =>
        obtain ⟨v, h1, h2⟩ := ih b (i := i) e
        exact ⟨v, h1, h2⟩
theorem Reps.append {vs ws : List V} {ds es : List D} (h : Reps K S H vs ds) (g : Reps K S H ws es) : Reps K S H (vs ++ ws) (ds ++ es) := by
  induction ds generalizing vs with
  | nil => cases h; exact g
  | cons x ds ih =>
    cases h with
    | cons a b => exact .cons a (ih b)
theorem Reps.one {v : V} {d : D} (h : Rep K S H v d) : Reps K S H [v] [d] := .cons h .nil
theorem Reps.take {vs : List V} {ds : List D} (n : Nat) (h : Reps K S H vs ds) : Reps K S H (vs.take n) (ds.take n) := by
  induction n generalizing vs ds with
  | zero => exact .nil
  | succ n ih =>
    cases h with
    | nil => exact .nil
    | cons a b => exact .cons a (ih b)
theorem Reps.drop {vs : List V} {ds : List D} (n : Nat) (h : Reps K S H vs ds) : Reps K S H (vs.drop n) (ds.drop n) := by
  induction n generalizing vs ds with
  | zero => exact h
  | succ n ih =>
    cases h with
    | nil => exact .nil
    | cons a b => exact ih b
theorem Reps.set {vs : List V} {ds : List D} {v : V} {d : D} (n : Nat) (r : Rep K S H v d) (h : Reps K S H vs ds) : Reps K S H (vs.set n v) (ds.set n d) := by
  induction n generalizing vs ds with
  | zero =>
    cases h with
    | nil => exact .nil
    | cons a b => exact .cons r b
  | succ n ih =>
    cases h with
    | nil => exact .nil
    | cons a b => exact .cons a (ih b)
theorem Reps.eraseIdx {vs : List V} {ds : List D} (n : Nat) (h : Reps K S H vs ds) : Reps K S H (vs.eraseIdx n) (ds.eraseIdx n) := by
  induction n generalizing vs ds with
  | zero =>
    cases h with
    | nil => exact .nil
    | cons a b => exact b
  | succ n ih =>
    cases h with
    | nil => exact .nil
    | cons a b => exact .cons a (ih b)
theorem Reps.dropLast {vs : List V} {ds : List D} (h : Reps K S H vs ds) : Reps K S H vs.dropLast ds.dropLast := by
  rw [List.dropLast_eq_take, List.dropLast_eq_take, h.length]
  exact h.take _
theorem Reps.reverse {vs : List V} {ds : List D} (h : Reps K S H vs ds) : Reps K S H vs.reverse ds.reverse := by
  induction ds generalizing vs with
  | nil => cases h; exact .nil
  | cons x ds ih =>
    cases h with
    | cons a b =>
      rw [List.reverse_cons, List.reverse_cons]
      exact (ih b).append (.one a)
theorem Reps.rep {vs : List V} {ds : List D} (h : Reps K S H vs ds) : ∀ k : Nat, Reps K S H (List.replicate k vs).flatten (List.replicate k ds).flatten
  | 0 => .nil
  | k + 1 => by
    rw [List.replicate_succ, List.replicate_succ, List.flatten_cons, List.flatten_cons]
    exact h.append (Reps.rep h k)
theorem Reps.ints (ns : List Int) : Reps K S H (ns.map V.int) (ns.map D.int) := by
  induction ns with
  | nil => exact .nil
  | cons n ns ih => exact .cons (.int n) ih
theorem Reps.ints_inv {vs : List V} {ns : List Int} (h : Reps K S H vs (ns.map D.int)) : vs = ns.map V.int := by
  induction ns generalizing vs with
  | nil => cases h; rfl
  | cons n ns ih =>
    cases h with
    | cons a b =>
      cases a
      rw [ih b]; rfl
theorem Reps.strs_inv {vs : List V} {ns : List Str} (h : Reps K S H vs (ns.map D.str)) : vs = ns.map V.str := by
  induction ns generalizing vs with
  | nil => cases h; rfl
  | cons n ns ih =>
    cases h with
    | cons a b =>
      cases a
      rw [ih b]; rfl
theorem Reps.bls_inv {vs : List V} {ns : List Bool} (h : Reps K S H vs (ns.map D.bl)) : vs = ns.map V.bl := by
  induction ns generalizing vs with
  | nil => cases h; rfl
  | cons n ns ih =>
    cases h with
    | cons a b =>
      cases a
      rw [ih b]; rfl
end

/-! ### owned objects -/
inductive N where
  | lst (xs : List D) | dic (kvs : List (Key × D)) | ins (C dx : Addr) (fs : List (Str × D))
def N.toD : N → D
  | .lst xs => .lst xs
  | .dic kvs => .dic kvs
  | .ins C _ fs => .obj C fs
abbrev Mem := List (Addr × N)
def keys (M : Mem) : List Addr := M.map (·.1)
def SM (S0 : Mark) (M : Mem) : Mark := fun a => S0 a ∨ a ∈ keys M

def NodeAt (K : PySem.W.Frag) (S : Mark) (H : Hp) (a : Addr) : N → Prop
  | .lst ds => ∃ vs, H a = some (.lst vs) ∧ Reps K S H vs ds
  | .dic kvs => ∃ ws, H a = some (.dK ws) ∧ RepsK K S H ws kvs
  | .ins C dx fs => ∃ ws, H a = some (.ins C dx ws) ∧ RepsF K S H ws fs

structure MemOk (K : PySem.W.Frag) (S0 : Mark) (M : Mem) (H : Hp) : Prop where
  nd : (keys M).Nodup
  at_ : ∀ e ∈ M, NodeAt K (SM S0 M) H e.1 e.2
  trk : ∀ a, S0 a → H a ≠ none
  dis : ∀ a ∈ keys M, ¬ S0 a

structure Ext (M : Mem) (H : Hp) (M' : Mem) (H' : Hp) : Prop where
  keep : ∀ b o, H b = some o → b ∉ keys M → H' b = some o
  new : ∀ b ∈ keys M', b ∈ keys M ∨ H b = none
  trk : ∀ b, H b ≠ none → H' b ≠ none
theorem Ext.refl (M : Mem) (H : Hp) : Ext M H M H := ⟨fun _ _ e _ => e, fun _ e => .inl e, fun _ e => e⟩
theorem Ext.trans {M M1 M2 : Mem} {H H1 H2 : Hp} (a : Ext M H M1 H1) (b : Ext M1 H1 M2 H2) : Ext M H M2 H2 := by
  refine ⟨fun c o e n => ?_, fun c h => ?_, fun c e => b.trk c (a.trk c e)⟩
  · refine b.keep c o (a.keep c o e n) fun h => ?_
    rcases a.new c h with h | h
    · exact n h
    · rw [e] at h; cases h
  · rcases b.new c h with h | h
    · exact a.new c h
    · by_cases z : H c = none
      · exact .inr z
      · exact absurd h (a.trk c z)
theorem Ext.kp {S0 : Mark} {M M' : Mem} {H H' : Hp} (x : Ext M H M' H') : Kp (SM S0 M) H (SM S0 M') H' := fun b o e n => by
  refine ⟨x.keep b o e fun h => n (.inr h), fun h => ?_⟩
  rcases h with h | h
  · exact n (.inl h)
  · rcases x.new b h with h | h
    · exact n (.inr h)
    · rw [e] at h; cases h

abbrev Slots := List (Option D)
def SlOk (K : PySem.W.Frag) (S : Mark) (H : Hp) (σ : St) (sl : Slots) : Prop := ∀ (i : Nat) (d : D), sl[i]? = some (some d) → ∃ v, σ[i]? = some (some v) ∧ Rep K S H v d
structure Ok (K : PySem.W.Frag) (S0 : Mark) (sl : Slots) (M : Mem) (σ : St) (H : Hp) : Prop where
  len : sl.length = σ.length
  sl : SlOk K (SM S0 M) H σ sl
  mem : MemOk K S0 M H
section
variable {K : PySem.W.Frag} {S0 : Mark} {M M' M1 : Mem} {H H' H1 : Hp} {sl : Slots} {σ : St}
theorem Rep.ext {v : V} {d : D} (r : Rep K (SM S0 M) H v d) (x : Ext M H M' H') : Rep K (SM S0 M') H' v d := Rep.mono x.kp d v r
theorem Reps.ext {v : List V} {d : List D} (r : Reps K (SM S0 M) H v d) (x : Ext M H M' H') : Reps K (SM S0 M') H' v d := Reps.mono x.kp d v r
theorem Ok.ext (k : Ok K S0 sl M σ H) (m : MemOk K S0 M' H') (x : Ext M H M' H') : Ok K S0 sl M' σ H' :=
  ⟨k.len, fun i d e => let ⟨v, h1, h2⟩ := k.sl i d e; ⟨v, h1, h2.ext x⟩, m⟩
theorem Ok.set (k : Ok K S0 sl M σ H) (i : Nat) {v : V} {d : D} (r : Rep K (SM S0 M) H v d) : Ok K S0 (sl.set i (some d)) M (σ.set i (some v)) H := by
  refine ⟨by rw [List.length_set, List.length_set, k.len], fun j e h => ?_, k.mem⟩
  by_cases z : i = j
  · subst z
    have hl : i < sl.length := by
      have := (List.getElem?_eq_some_iff.mp h).1
      rwa [List.length_set] at this
    rw [List.getElem?_set_self hl] at h
    cases h
    exact ⟨v, by rw [List.getElem?_set_self (by rw [← k.len]; exact hl)], r⟩
  · rw [List.getElem?_set_ne z] at h
    obtain ⟨v', h1, h2⟩ := k.sl j e h
    exact ⟨v', by rw [List.getElem?_set_ne z]; exact h1, h2⟩
/-- a slot is forgotten -/
theorem Ok.forget (k : Ok K S0 sl M σ H) (i : Nat) : Ok K S0 (sl.set i none) M σ H := by
  refine ⟨by rw [List.length_set, k.len], fun j e h => ?_, k.mem⟩
  by_cases z : i = j
  · subst z
    have hl : i < sl.length := by
      have := (List.getElem?_eq_some_iff.mp h).1
      rwa [List.length_set] at this
    rw [List.getElem?_set_self hl] at h
    cases h
  · rw [List.getElem?_set_ne z] at h
    exact k.sl j e h

theorem keys_append : keys (M ++ M1) = keys M ++ keys M1 := by unfold keys; rw [List.map_append]
theorem keys_set {k : Nat} {p : Addr} {n n' : N} (h : M[k]? = some (p, n)) : keys (M.set k (p, n')) = keys M := by
  unfold keys
  rw [List.map_set]
  refine List.ext_getElem? fun j => ?_
  by_cases z : k = j
  · subst z
    have hl : k < M.length := (List.getElem?_eq_some_iff.mp h).1
    rw [List.getElem?_set_self (by rw [List.length_map]; exact hl), List.getElem?_map, h]
    rfl
  · rw [List.getElem?_set_ne z]
theorem mem_keys_of {k : Nat} {p : Addr} {n : N} (h : M[k]? = some (p, n)) : p ∈ keys M := List.mem_map.mpr ⟨(p, n), List.mem_of_getElem? h, rfl⟩
theorem SM_keys {M M' : Mem} (e : keys M' = keys M) : SM S0 M' = SM S0 M := by unfold SM; rw [e]

/-- the nodes keep what they are, where their own objects are kept -/
theorem NodeAt.mono {S S' : Mark} {a : Addr} {n : N} (k : Kp S H S' H') (e : H' a = H a) (h : NodeAt K S H a n) : NodeAt K S' H' a n := by
  cases n with
  | lst ds => obtain ⟨vs, h1, h2⟩ := h; exact ⟨vs, by rw [e]; exact h1, Reps.mono k _ _ h2⟩
  | dic ds => obtain ⟨vs, h1, h2⟩ := h; exact ⟨vs, by rw [e]; exact h1, RepsK.mono k _ _ h2⟩
  | ins C dx fs => obtain ⟨vs, h1, h2⟩ := h; exact ⟨vs, by rw [e]; exact h1, RepsF.mono k _ _ h2⟩
theorem NodeAt.some {S : Mark} {a : Addr} {n : N} (h : NodeAt K S H a n) : H a ≠ none := by
  cases n with
  | lst ds => obtain ⟨vs, h1, h2⟩ := h; rw [h1]; exact fun z => by cases z
  | dic ds => obtain ⟨vs, h1, h2⟩ := h; rw [h1]; exact fun z => by cases z
  | ins C dx fs => obtain ⟨vs, h1, h2⟩ := h; rw [h1]; exact fun z => by cases z
theorem MemOk.tracked (m : MemOk K S0 M H) : ∀ a, SM S0 M a → H a ≠ none := fun a h => by
  rcases h with h | h
  · exact m.trk a h
  · obtain ⟨⟨p, n⟩, h1, rfl⟩ := List.mem_map.mp h
    exact (m.at_ _ h1).some
theorem MemOk.free (m : MemOk K S0 M H) {p : Addr} (h : H p = none) : ¬ SM S0 M p := fun z => m.tracked p z h

/-- a new object, not owned -/
theorem Ext.new_imm {p : Addr} {o : HO} (h : H p = none) : Ext M H M (upd H p o) :=
  ⟨fun b o' e _ => by rw [upd_ne (ne_of_none e h)]; exact e, fun b e => .inl e, fun b e => by
    by_cases z : b = p
    · subst z; rw [upd_same]; exact fun z => by cases z
    · rw [upd_ne z]; exact e⟩
theorem MemOk.new_imm (m : MemOk K S0 M H) {p : Addr} {o : HO} (h : H p = none) : MemOk K S0 M (upd H p o) := by
  have x : Ext M H M (upd H p o) := .new_imm h
  refine ⟨m.nd, fun e he => (m.at_ e he).mono x.kp ?_, fun a s => x.trk a (m.trk a s), m.dis⟩
  rw [upd_ne]
  intro z
  exact (m.at_ e he).some (by rw [z]; exact h)
/-- a new object, owned -/
theorem Ext.new_own {p : Addr} {o : HO} {n : N} (h : H p = none) : Ext M H (M ++ [(p, n)]) (upd H p o) :=
  ⟨fun b o' e _ => by rw [upd_ne (ne_of_none e h)]; exact e, fun b e => by
    rw [keys_append] at e
    rcases List.mem_append.mp e with e | e
    · exact .inl e
    · have : b = p := by simpa [keys] using e
      subst this
      exact .inr h, (Ext.new_imm (M := M) h).trk⟩
theorem MemOk.new_own (m : MemOk K S0 M H) {p : Addr} {o : HO} {n : N} (h : H p = none) (g : NodeAt K (SM S0 (M ++ [(p, n)])) (upd H p o) p n) : MemOk K S0 (M ++ [(p, n)]) (upd H p o) := by
  have x : Ext M H (M ++ [(p, n)]) (upd H p o) := .new_own h
  have np : p ∉ keys M := fun z => m.free h (.inr z)
  refine ⟨?_, fun e he => ?_, fun a s => x.trk a (m.trk a s), fun a ha => ?_⟩
  · rw [keys_append]
    refine List.nodup_append.mpr ⟨m.nd, by simp [keys], fun a ha b hb => ?_⟩
    have : b = p := by simpa [keys] using hb
    subst this
    intro z; subst z
    exact np ha
  · rcases List.mem_append.mp he with he | he
    · refine (m.at_ e he).mono x.kp ?_
      rw [upd_ne]
      intro z
      exact (m.at_ e he).some (by rw [z]; exact h)
    · have : e = (p, n) := by simpa using he
      subst this
      exact g
  · rw [keys_append] at ha
    rcases List.mem_append.mp ha with ha | ha
    · exact m.dis a ha
    · have : a = p := by simpa [keys] using ha
      subst this
      exact fun z => m.trk a z h
/-- an owned object is written -/
theorem Ext.write {k : Nat} {p : Addr} {n n' : N} {o : HO} (e : M[k]? = some (p, n)) : Ext M H (M.set k (p, n')) (upd H p o) :=
  ⟨fun b o' e' hb => by rw [upd_ne (fun z => hb (by rw [z]; exact mem_keys_of e))]; exact e', fun b hb => by rw [keys_set e] at hb; exact .inl hb, fun b hb => by
    by_cases z : b = p
    · subst z; rw [upd_same]; exact fun z => by cases z
    · rw [upd_ne z]; exact hb⟩
theorem MemOk.write (m : MemOk K S0 M H) {k : Nat} {p : Addr} {n n' : N} {o : HO} (e : M[k]? = some (p, n)) (g : NodeAt K (SM S0 M) (upd H p o) p n') : MemOk K S0 (M.set k (p, n')) (upd H p o) := by
  have x : Ext M H (M.set k (p, n')) (upd H p o) := .write e
  have sk : SM S0 (M.set k (p, n')) = SM S0 M := SM_keys (keys_set e)
  refine ⟨by rw [keys_set e]; exact m.nd, fun q hq => ?_, fun a s => x.trk a (m.trk a s), fun a ha => by rw [keys_set e] at ha; exact m.dis a ha⟩
  obtain ⟨j, hj⟩ := List.getElem?_of_mem hq
  by_cases z : k = j
  · subst z
    rw [List.getElem?_set_self (List.getElem?_eq_some_iff.mp e).1] at hj
    cases hj
    rw [sk]; exact g
  · rw [List.getElem?_set_ne z] at hj
    have hm : q ∈ M := List.mem_of_getElem? hj
    have np : q.1 ≠ p := fun w => by
      have h1 : (keys M)[k]? = some p := by unfold keys; rw [List.getElem?_map, e]; rfl
      have h2 : (keys M)[j]? = some p := by unfold keys; rw [List.getElem?_map, hj]; exact congrArg some w
      exact z (nodup_ix2 m.nd h1 h2)
    exact (m.at_ q hm).mono x.kp (by rw [upd_ne np])
where
  nodup_ix2 {N : List Addr} (hN : N.Nodup) {i j : Nat} {x : Addr} (a : N[i]? = some x) (b : N[j]? = some x) : i = j := by
    obtain ⟨h1, e1⟩ := List.getElem?_eq_some_iff.mp a
    obtain ⟨h2, e2⟩ := List.getElem?_eq_some_iff.mp b
    exact (List.getElem_inj hN).mp (e1.trans e2.symm)
end
end OD

/-! OD2: expressions over data. -/
namespace OD
open PySem PySem.Spec L2

abbrev DK := D → Mem → Prop
abbrev XD := Value → Option (List (Str × D)) → Mem → Prop
abbrev DE := Slots → Mem → XD → DK → Prop
abbrev DT := Slots → Mem → XD → (Bool → Mem → Prop) → Prop
abbrev DA := Slots → Mem → XD → (List D → Mem → Prop) → Prop

/-- what is wanted of a value, over data and over the heap -/
def Lk (K : PySem.W.Frag) (S0 : Mark) (M : Mem) (H : Hp) (Q : VK) (QD : DK) : Prop := ∀ (d : D) (M' : Mem) (v : V) (H' : Hp), MemOk K S0 M' H' → Ext M H M' H' → Rep K (SM S0 M') H' v d → QD d M' → Q v H'
def XRep (K : PySem.W.Frag) (S : Mark) (H : Hp) : Option Addr → Option (List (Str × D)) → Prop
  | none, none => True
  | some a, some fs => ∃ ws, H a = some (.xd ws) ∧ RepsF K S H ws fs
  | _, _ => False
def XL (K : PySem.W.Frag) (S0 : Mark) (M : Mem) (H : Hp) (E : XK) (ED : XD) : Prop := ∀ (cls : Value) (fs : Option (List (Str × D))) (M' : Mem) (dd : Option Addr) (H' : Hp),
  MemOk K S0 M' H' → Ext M H M' H' → XRep K (SM S0 M') H' dd fs → ED cls fs M' → E cls dd H'
section
variable {K : PySem.W.Frag} {S0 : Mark} {M M' M1 : Mem} {H H' H1 : Hp} {sl : Slots} {σ : L2.St} {Q : VK} {QD : DK} {E : XK} {ED : XD}
theorem Lk.ext (l : Lk K S0 M H Q QD) (x : Ext M H M1 H1) : Lk K S0 M1 H1 Q QD := fun d M' v H' m y r q => l d M' v H' m (x.trans y) r q
theorem XL.ext (l : XL K S0 M H E ED) (x : Ext M H M1 H1) : XL K S0 M1 H1 E ED := fun c f M' d H' m y r q => l c f M' d H' m (x.trans y) r q
theorem Lk.now (l : Lk K S0 M H Q QD) (m : MemOk K S0 M H) {d : D} {v : V} (r : Rep K (SM S0 M) H v d) (q : QD d M) : Q v H := l d M v H m (.refl _ _) r q
end

def SimE (K : PySem.W.Frag) (E : L2.St → XK) (t : TE) (td : DE) : Prop := ∀ (S0 : Mark) (sl : Slots) (M : Mem) (σ : L2.St) (H : Hp) (Q : VK) (QD : DK) (ED : XD),
  Ok K S0 sl M σ H → XL K S0 M H (E σ) ED → td sl M ED QD → Lk K S0 M H Q QD → t σ H Q
def SimT (K : PySem.W.Frag) (E : L2.St → XK) (t : TT) (td : DT) : Prop := ∀ (S0 : Mark) (sl : Slots) (M : Mem) (σ : L2.St) (H : Hp) (Q : Bool → Hp → Prop) (QD : Bool → Mem → Prop) (ED : XD),
  Ok K S0 sl M σ H → XL K S0 M H (E σ) ED → td sl M ED QD → (∀ b M' H', MemOk K S0 M' H' → Ext M H M' H' → QD b M' → Q b H') → t σ H Q
def SimA (K : PySem.W.Frag) (E : L2.St → XK) (t : TA) (td : DA) : Prop := ∀ (S0 : Mark) (sl : Slots) (M : Mem) (σ : L2.St) (H : Hp) (Q : List V → Hp → Prop) (QD : List D → Mem → Prop) (ED : XD),
  Ok K S0 sl M σ H → XL K S0 M H (E σ) ED → td sl M ED QD → (∀ ds M' vs H', MemOk K S0 M' H' → Ext M H M' H' → Reps K (SM S0 M') H' vs ds → QD ds M' → Q vs H') → t σ H Q

structure DEx (X : Cx) (E : L2.St → XK) (e : Expr) (td : DE) : Prop where
  ex : ∃ t, PE X e t ∧ SimE X.K E t td
structure DTx (X : Cx) (E : L2.St → XK) (e : Expr) (td : DT) : Prop where
  ex : ∃ t, PT X e t ∧ SimT X.K E t td
structure DWx (X : Cx) (E : L2.St → XK) (e : Expr) (td : DT) : Prop where
  ex : ∃ t, PW X e t ∧ SimT X.K E t td
structure DAx (X : Cx) (E : L2.St → XK) (es : List Expr) (td : DA) : Prop where
  ex : ∃ t, PA X es t ∧ SimA X.K E t td

/-! ### a look at what an owned object holds -/
def vw (M : Mem) (d : D) (P : D → Prop) : Prop := match d with
  | .ref p => ∃ (k : Nat) (n : N), M[k]? = some (p, n) ∧ P n.toD
  | d => P d
inductive RepT (K : PySem.W.Frag) (S : Mark) (H : Hp) : V → D → Prop
  | imm {v : V} {d : D} : Rep K S H v d → RepT K S H v d
  | lst {a : Addr} {vs : List V} {ds : List D} : H a = some (.lst vs) → Reps K S H vs ds → RepT K S H (.ref a) (.lst ds)
  | dic {a : Addr} {vs : List (Key × V)} {ds : List (Key × D)} : H a = some (.dK vs) → RepsK K S H vs ds → RepT K S H (.ref a) (.dic ds)
  | obj {a C dx : Addr} {vs : List (Str × V)} {ds : List (Str × D)} : H a = some (.ins C dx vs) → RepsF K S H vs ds → RepT K S H (.ref a) (.obj C ds)
section
variable {K : PySem.W.Frag} {S S0 : Mark} {M : Mem} {H : Hp} {v : V} {d : D} {P : D → Prop}
theorem vw_of (m : MemOk K S0 M H) (r : Rep K (SM S0 M) H v d) (h : vw M d P) : ∃ w, P w ∧ RepT K (SM S0 M) H v w := by
  cases d with
  | ref p =>
    obtain ⟨k, n, e, q⟩ := h
    have g := m.at_ _ (List.mem_of_getElem? e)
    cases r
    cases n with
    | lst ds => obtain ⟨vs, h1, h2⟩ := g; exact ⟨_, q, .lst h1 h2⟩
    | dic ds => obtain ⟨vs, h1, h2⟩ := g; exact ⟨_, q, .dic h1 h2⟩
    | ins C dx ds => obtain ⟨vs, h1, h2⟩ := g; exact ⟨_, q, .obj h1 h2⟩
  | _ => exact ⟨_, h, .imm r⟩
theorem RepT.lst_inv {ds : List D} (r : RepT K S H v (.lst ds)) : ∃ a vs, v = .ref a ∧ H a = some (.lst vs) ∧ Reps K S H vs ds := by
  cases r with
  | imm r => cases r with
    | lst h1 h2 h3 => exact ⟨_, _, rfl, h2, h3⟩
  | lst h1 h2 => exact ⟨_, _, rfl, h1, h2⟩
theorem RepT.tup_inv {ds : List D} (r : RepT K S H v (.tup ds)) : ∃ a vs, v = .ref a ∧ SqT K H a vs ∧ Reps K S H vs ds := by
  cases r with
  | imm r => cases r with
    | tup h1 h2 => exact ⟨_, _, rfl, h1.sq, h2⟩
theorem RepT.dic_inv {ds : List (Key × D)} (r : RepT K S H v (.dic ds)) : ∃ a vs, v = .ref a ∧ H a = some (.dK vs) ∧ RepsK K S H vs ds := by
  cases r with
  | imm r => cases r with
    | dic h1 h2 h3 => exact ⟨_, _, rfl, h2, h3⟩
  | dic h1 h2 => exact ⟨_, _, rfl, h1, h2⟩
theorem RepT.obj_inv {C : Addr} {ds : List (Str × D)} (r : RepT K S H v (.obj C ds)) : ∃ a dx vs, v = .ref a ∧ H a = some (.ins C dx vs) ∧ RepsF K S H vs ds := by
  cases r with
  | imm r => cases r with
    | obj h1 h2 h3 => exact ⟨_, _, _, rfl, h2, h3⟩
  | obj h1 h2 => exact ⟨_, _, _, rfl, h1, h2⟩
theorem RepT.scr_inv {ns : List Int} (r : RepT K S H v (.scr ns)) : ∃ a, v = .ref a ∧ SqL K H a (ns.map V.int) := by
  cases r with
  | imm r => cases r with
    | scr h1 => exact ⟨_, rfl, h1.sq⟩
theorem RepT.int_inv {i : Int} (r : RepT K S H v (.int i)) : v = .int i := by
  cases r with
  | imm r => cases r; rfl
theorem RepT.bl_inv {i : Bool} (r : RepT K S H v (.bl i)) : v = .bl i := by
  cases r with
  | imm r => cases r; rfl
theorem RepT.str_inv {i : Str} (r : RepT K S H v (.str i)) : v = .str i := by
  cases r with
  | imm r => cases r; rfl
theorem RepT.non_inv (r : RepT K S H v .non) : v = .non := by
  cases r with
  | imm r => cases r; rfl
theorem RepT.ty_inv {n : String} (r : RepT K S H v (.ty n)) : v = .ty n := by
  cases r with
  | imm r => cases r; rfl
end

/-! ### new objects -/
/-- o: is the new object to be owned -/
def al (o : Bool) (n : N) (M : Mem) (Q : DK) : Prop := match o with
  | true => ∀ p, p ∉ keys M → Q (.ref p) (M ++ [(p, n)])
  | false => Q n.toD M
section
variable {K : PySem.W.Frag} {S0 : Mark} {M : Mem} {H : Hp} {Q : VK} {QD : DK}
theorem MemOk.notKey (m : MemOk K S0 M H) {p : Addr} (h : H p = none) : p ∉ keys M := fun z => m.free h (.inr z)
theorem al_lst {o : Bool} {vs : List V} {ds : List D} (m : MemOk K S0 M H) (r : Reps K (SM S0 M) H vs ds) (h : al o (.lst ds) M QD) (l : Lk K S0 M H Q QD) : ∀ p, H p = none → Q (.ref p) (upd H p (.lst vs)) := fun p np => by
  cases o with
  | true =>
    refine l (.ref p) _ _ _ (m.new_own (n := .lst ds) np ⟨vs, upd_same, r.ext (.new_own np)⟩) (.new_own np) (.ref p) (h p (m.notKey np))
  | false =>
    exact l (.lst ds) M _ _ (m.new_imm np) (.new_imm np) (.lst (m.free np) upd_same (r.ext (.new_imm np))) h
theorem al_dic {o : Bool} {vs : List (Key × V)} {ds : List (Key × D)} (m : MemOk K S0 M H) (r : RepsK K (SM S0 M) H vs ds) (h : al o (.dic ds) M QD) (l : Lk K S0 M H Q QD) : ∀ p, H p = none → Q (.ref p) (upd H p (.dK vs)) := fun p np => by
  cases o with
  | true =>
    refine l (.ref p) _ _ _ (m.new_own (n := .dic ds) np ⟨vs, upd_same, RepsK.mono (Ext.new_own np).kp _ _ r⟩) (.new_own np) (.ref p) (h p (m.notKey np))
  | false =>
    exact l (.dic ds) M _ _ (m.new_imm np) (.new_imm np) (.dic (m.free np) upd_same (RepsK.mono (Ext.new_imm np).kp _ _ r)) h
theorem new_tup {vs : List V} {ds : List D} (m : MemOk K S0 M H) (r : Reps K (SM S0 M) H vs ds) (h : QD (.tup ds) M) (l : Lk K S0 M H Q QD) : ∀ p, H p = none → Q (.ref p) (upd H p (.tup vs)) := fun p np =>
  l (.tup ds) M _ _ (m.new_imm np) (.new_imm np) (.tup (.inl ⟨m.free np, upd_same⟩) (r.ext (.new_imm np))) h
end

/-! ### names, constants -/
section
variable {X : Cx} {E : L2.St → XK}
def dVar (i : Nat) : DE := fun sl M _ Q => ∃ d, sl[i]? = some (some d) ∧ Q d M
def dC (d : D) : DE := fun _ M _ Q => Q d M
theorem de_var {i : Nat} {e : Expr} (h : PE X e (tVar i)) : DEx X E e (dVar i) := ⟨_, h, fun S0 sl M σ H Q QD ED k xl hd l => by
  obtain ⟨d, e1, q⟩ := hd
  obtain ⟨v, e2, r⟩ := k.sl i d e1
  exact ⟨v, e2, l.now k.mem r q⟩⟩
theorem sim_c {K : PySem.W.Frag} {v : V} {d : D} (h : ∀ S H, Rep K S H v d) : SimE K E (tC v) (dC d) := fun S0 sl M σ H Q QD ED k xl hd l => l.now k.mem (h _ _) hd
theorem de_int {i : Int} {j pos} : DEx X E (.Constant (.int i) j pos) (dC (.int i)) := ⟨_, pe_int, sim_c fun _ _ => .int i⟩
theorem de_bl {i : Bool} {j pos} : DEx X E (.Constant (.bool i) j pos) (dC (.bl i)) := ⟨_, pe_bl, sim_c fun _ _ => .bl i⟩
theorem de_str {i : Str} {j pos} : DEx X E (.Constant (.str i) j pos) (dC (.str i)) := ⟨_, pe_str, sim_c fun _ _ => .str i⟩
theorem de_non {j pos} : DEx X E (.Constant .none j pos) (dC .non) := ⟨_, pe_non, sim_c fun _ _ => .non⟩
theorem de_glob {x : Str} {v : V} {d : D} {u : Value} {pos : Pos} (hg : Gl X x) (hm : X.mg x = some u) (r : RelV v u) (h : ∀ S H, Rep X.K S H v d) (hd : (x == ("__debug__" : Str)) = false := by decide) : DEx X E (.Name x pos) (dC d) := ⟨_, pe_glob hg hm r hd, sim_c h⟩
theorem de_bltn {x : Str} {v : V} {d : D} {u : Value} {pos : Pos} (hg : Gl X x) (hm : X.mg x = none) (hv : bootBuiltins x = some u) (r : RelV v u) (h : ∀ S H, Rep X.K S H v d) (hn : x ≠ "__name__" := by decide) (hd : (x == ("__debug__" : Str)) = false := by decide) : DEx X E (.Name x pos) (dC d) := ⟨_, pe_bltn hg hm hv r hn hd, sim_c h⟩

/-! ### operators by values -/
def SimV2 (K : PySem.W.Frag) (r : R2) (rd : D → D → Mem → DK → Prop) : Prop := ∀ (S0 : Mark) (M : Mem) (H : Hp) (x y : V) (dx dy : D) (Q : VK) (QD : DK),
  MemOk K S0 M H → RepT K (SM S0 M) H x dx → RepT K (SM S0 M) H y dy → rd dx dy M QD → Lk K S0 M H Q QD → r x y H Q
def dOp (rd : D → D → Mem → DK → Prop) (da db : DE) : DE := fun sl M ED Q => da sl M ED fun x M1 => db sl M1 ED fun y M2 => vw M2 x fun x' => vw M2 y fun y' => rd x' y' M2 Q
theorem sim_op {K : PySem.W.Frag} {r : R2} {rd : D → D → Mem → DK → Prop} {ta tb : TE} {da db : DE} (hr : SimV2 K r rd) (ha : SimE K E ta da) (hb : SimE K E tb db) : SimE K E (tOp r ta tb) (dOp rd da db) := by
  intro S0 sl M σ H Q QD ED k xl hd l
  refine ha S0 sl M σ H _ _ ED k xl hd fun d1 M1 x H1 m1 x1 r1 q1 => ?_
  refine hb S0 sl M1 σ H1 _ _ ED (k.ext m1 x1) (xl.ext x1) q1 fun d2 M2 y H2 m2 x2 r2 q2 => ?_
  obtain ⟨w1, q3, t1⟩ := vw_of m2 (r1.ext x2) q2
  obtain ⟨w2, q4, t2⟩ := vw_of m2 r2 q3
  exact hr S0 M2 H2 x y w1 w2 Q QD m2 t1 t2 q4 (l.ext (x1.trans x2))
def SimV1 (K : PySem.W.Frag) (r : V → Hp → VK → Prop) (rd : D → Mem → DK → Prop) : Prop := ∀ (S0 : Mark) (M : Mem) (H : Hp) (x : V) (dx : D) (Q : VK) (QD : DK),
  MemOk K S0 M H → RepT K (SM S0 M) H x dx → rd dx M QD → Lk K S0 M H Q QD → r x H Q
def dUn (rd : D → Mem → DK → Prop) (da : DE) : DE := fun sl M ED Q => da sl M ED fun x M1 => vw M1 x fun x' => rd x' M1 Q
theorem sim_un {K : PySem.W.Frag} {r : V → Hp → VK → Prop} {rd : D → Mem → DK → Prop} {ta : TE} {da : DE} (hr : SimV1 K r rd) (ha : SimE K E ta da) : SimE K E (tUn r ta) (dUn rd da) := by
  intro S0 sl M σ H Q QD ED k xl hd l
  refine ha S0 sl M σ H _ _ ED k xl hd fun d1 M1 x H1 m1 x1 r1 q1 => ?_
  obtain ⟨w1, q3, t1⟩ := vw_of m1 r1 q1
  exact hr S0 M1 H1 x w1 Q QD m1 t1 q3 (l.ext x1)
variable {a b c : Expr} {pos : Pos} {da db dc : DE}
theorem de_op {op : Operator} {r : R2} {rd : D → D → Mem → DK → Prop} (ho : OpR X (binaryOp op) r) (hr : SimV2 X.K r rd) (ha : DEx X E a da) (hb : DEx X E b db) : DEx X E (.BinOp a op b pos) (dOp rd da db) := by
  obtain ⟨ta, p1, s1⟩ := ha
  obtain ⟨tb, p2, s2⟩ := hb
  exact ⟨_, pe_op ho p1 p2, sim_op hr s1 s2⟩
theorem de_un {op : UnaryOp} {r : V → Hp → VK → Prop} {rd : D → Mem → DK → Prop} (ho : UnR X (unaryOp op) r) (hr : SimV1 X.K r rd) (ha : DEx X E a da) : DEx X E (.UnaryOp op a pos) (dUn rd da) := by
  obtain ⟨ta, p1, s1⟩ := ha
  exact ⟨_, pe_un ho p1, sim_un hr s1⟩
theorem de_cmp {op : CmpOp} {r : R2} {rd : D → D → Mem → DK → Prop} (ho : OpR X (compareOp op) r) (hr : SimV2 X.K r rd) (ha : DEx X E a da) (hb : DEx X E b db) (hm : behindInMarks op b = false := by first | exact nomark _ | rfl) : DEx X E (.Compare a [op] [b] pos) (dOp rd da db) := by
  obtain ⟨ta, p1, s1⟩ := ha
  obtain ⟨tb, p2, s2⟩ := hb
  exact ⟨_, pe_cmpR ho p1 p2 hm, sim_op hr s1 s2⟩
/-- a value that is a bool, as a test -/
def dTest (t : DE) : DT := fun sl M ED Q => t sl M ED fun x M' => ∃ k, x = .bl k ∧ Q k M'
theorem sim_test {K : PySem.W.Frag} {t : TE} {td : DE} (h : SimE K E t td) : SimT K E (tTest t) (dTest td) := by
  intro S0 sl M σ H Q QD ED k xl hd l
  refine h S0 sl M σ H _ _ ED k xl hd fun d1 M1 x H1 m1 x1 r1 q1 => ?_
  obtain ⟨b, e, q⟩ := q1
  subst e
  cases r1
  exact ⟨b, rfl, l b M1 H1 m1 x1 q⟩
theorem dt_cmp {op : CmpOp} {r : R2} {rd : D → D → Mem → DK → Prop} (ho : OpR X (compareOp op) r) (hr : SimV2 X.K r rd) (ha : DEx X E a da) (hb : DEx X E b db) (hm : behindInMarks op b = false := by first | exact nomark _ | rfl) : DTx X E (.Compare a [op] [b] pos) (dTest (dOp rd da db)) := by
  obtain ⟨ta, p1, s1⟩ := ha
  obtain ⟨tb, p2, s2⟩ := hb
  exact ⟨_, pt_cmpR ho p1 p2 hm, sim_test (sim_op hr s1 s2)⟩
/-- a < b < c -/
def dChain (rd rd' : D → D → Mem → DK → Prop) (da db dc : DE) : DE := fun sl M ED Q => da sl M ED fun x M1 => db sl M1 ED fun y M2 => vw M2 x fun x' => vw M2 y fun y' => rd x' y' M2 fun z M3 => ∃ k, z = .bl k ∧
  if k = true then dc sl M3 ED fun w M4 => vw M4 y fun y'' => vw M4 w fun w' => rd' y'' w' M4 Q else Q (.bl false) M3
theorem sim_chain {K : PySem.W.Frag} {r r' : R2} {rd rd' : D → D → Mem → DK → Prop} {ta tb tc : TE} {da db dc : DE} (hr : SimV2 K r rd) (hr' : SimV2 K r' rd') (ha : SimE K E ta da) (hb : SimE K E tb db) (hc : SimE K E tc dc) :
    SimE K E (tChain r r' ta tb tc) (dChain rd rd' da db dc) := by
  intro S0 sl M σ H Q QD ED k xl hd l
  refine ha S0 sl M σ H _ _ ED k xl hd fun d1 M1 x H1 m1 x1 r1 q1 => ?_
  refine hb S0 sl M1 σ H1 _ _ ED (k.ext m1 x1) (xl.ext x1) q1 fun d2 M2 y H2 m2 x2 r2 q2 => ?_
  obtain ⟨w1, q3, t1⟩ := vw_of m2 (r1.ext x2) q2
  obtain ⟨w2, q4, t2⟩ := vw_of m2 r2 q3
  refine hr S0 M2 H2 x y w1 w2 _ _ m2 t1 t2 q4 fun d3 M3 z H3 m3 x3 r3 q5 => ?_
  obtain ⟨b, e, q6⟩ := q5
  subst e
  cases r3
  refine ⟨b, rfl, ?_⟩
  have x13 := (x1.trans x2).trans x3
  cases b with
  | true =>
    rw [if_pos rfl] at q6 ⊢
    refine hc S0 sl M3 σ H3 _ _ ED (k.ext m3 x13) (xl.ext x13) q6 fun d4 M4 w H4 m4 x4 r4 q7 => ?_
    obtain ⟨w3, q8, t3⟩ := vw_of m4 (r2.ext (x3.trans x4)) q7
    obtain ⟨w4, q9, t4⟩ := vw_of m4 r4 q8
    exact hr' S0 M4 H4 y w w3 w4 Q QD m4 t3 t4 q9 (l.ext (x13.trans x4))
  | false =>
    rw [if_neg Bool.false_ne_true] at q6 ⊢
    exact l _ _ _ _ m3 x13 (.bl false) q6
theorem de_chain {op op' : CmpOp} {r r' : R2} {rd rd' : D → D → Mem → DK → Prop} (ho : OpR X (compareOp op) r) (hr : SimV2 X.K r rd) (ho' : OpR X (compareOp op') r') (hr' : SimV2 X.K r' rd') (ha : DEx X E a da) (hb : DEx X E b db) (hc : DEx X E c dc)
    (hm : lastMarks [op, op'] [b, c] = false := by with_unfolding_all rfl) : DEx X E (.Compare a [op, op'] [b, c] pos) (dChain rd rd' da db dc) := by
  obtain ⟨ta, p1, s1⟩ := ha
  obtain ⟨tb, p2, s2⟩ := hb
  obtain ⟨tc, p3, s3⟩ := hc
  exact ⟨_, pe_chain ho ho' p1 p2 p3 hm, sim_chain hr hr' s1 s2 s3⟩
theorem dt_chain {op op' : CmpOp} {r r' : R2} {rd rd' : D → D → Mem → DK → Prop} (ho : OpR X (compareOp op) r) (hr : SimV2 X.K r rd) (ho' : OpR X (compareOp op') r') (hr' : SimV2 X.K r' rd') (ha : DEx X E a da) (hb : DEx X E b db) (hc : DEx X E c dc)
    (hm : lastMarks [op, op'] [b, c] = false := by with_unfolding_all rfl) : DTx X E (.Compare a [op, op'] [b, c] pos) (dTest (dChain rd rd' da db dc)) := by
  obtain ⟨ta, p1, s1⟩ := ha
  obtain ⟨tb, p2, s2⟩ := hb
  obtain ⟨tc, p3, s3⟩ := hc
  exact ⟨_, pt_chain ho ho' p1 p2 p3 hm, sim_test (sim_chain hr hr' s1 s2 s3)⟩
end
end OD

/-! OD3: the operators by values. -/
namespace OD
open PySem PySem.Spec L2

/-! ### + - * // % ** -/
def addD (o : Bool) : D → D → Mem → DK → Prop
  | .int i, .int j, M, Q => Q (.int (i + j)) M
  | .str x, .str y, M, Q => x.length + y.length ≤ sizeLine ∧ Q (.str (x ++ y)) M
  | .lst a, .lst b, M, Q => a.length + b.length ≤ sizeLine ∧ al o (.lst (a ++ b)) M Q
  | .tup a, .tup b, M, Q => a.length + b.length ≤ sizeLine ∧ Q (.tup (a ++ b)) M
  | _, _, _, _ => False
def subD : D → D → Mem → DK → Prop
  | .int i, .int j, M, Q => Q (.int (i - j)) M
  | _, _, _, _ => False
def MulOk (i j : Int) : Prop := CMul i j ∨ CMulW i j
def mulD (o : Bool) : D → D → Mem → DK → Prop
  | .int i, .int j, M, Q => MulOk i j ∧ Q (.int (i * j)) M
  | .lst a, .int k, M, Q => -(2 ^ 63) ≤ k ∧ k < 2 ^ 63 ∧ a.length * k.toNat ≤ sizeLine ∧ al o (.lst (List.replicate k.toNat a).flatten) M Q
  | _, _, _, _ => False
def divD : D → D → Mem → DK → Prop
  | .int i, .int j, M, Q => (0 < j ∧ j.natAbs.log2 < 9000) ∧ Q (.int (i / j)) M
  | _, _, _, _ => False
def modD : D → D → Mem → DK → Prop
  | .int i, .int j, M, Q => 0 < j ∧ Q (.int (i % j)) M
  | _, _, _, _ => False
def powD : D → D → Mem → DK → Prop
  | .int i, .int j, M, Q => (0 ≤ j ∧ j ≤ 1000000 ∧ i.natAbs < 2 ^ 64) ∧ Q (.int (i ^ j.toNat)) M
  | _, _, _, _ => False
def ordD (f : Int → Int → Bool) (g : List Nat → List Nat → Bool) : D → D → Mem → DK → Prop
  | .int i, .int j, M, Q => Q (.bl (f i j)) M
  | .str x, .str y, M, Q => Q (.bl (g x.cps.toList y.cps.toList)) M
  | _, _, _, _ => False
abbrev ltD := ordD (fun i j => decide (i < j)) (fun x y => decide (x < y))
abbrev leD := ordD (fun i j => decide (i ≤ j)) (fun x y => !decide (y < x))
abbrev gtD := ordD (fun i j => decide (j < i)) (fun x y => decide (y < x))
abbrev geD := ordD (fun i j => decide (j ≤ i)) (fun x y => !decide (x < y))

section
variable {X : Cx} {K : PySem.W.Frag}
def rAddA (K : PySem.W.Frag) : R2 := fun x y H Q => rI0 (fun i j => .int (i + j)) x y H Q ∨ (∃ i j, x = .str i ∧ y = .str j ∧ i.length + j.length ≤ sizeLine ∧ Q (.str (i ++ j)) H) ∨ rCat x y H Q ∨ rCatA K x y H Q
theorem op_addA : OpR X (binaryOp .Add) (rAddA X.K) := op_add.or (op_add_str.or (op_cat.or op_catA))
theorem sv_add {o : Bool} : SimV2 K (rAddA K) (addD o) := by
  intro S0 M H x y dx dy Q QD m rx ry h l
  cases dx with
  | int i =>
    cases dy with
    | int j =>
      cases rx.int_inv; cases ry.int_inv
      exact .inl ⟨i, j, rfl, rfl, l.now m (.int _) h⟩
    | _ => exact h.elim
  | str i =>
    cases dy with
    | str j =>
      cases rx.str_inv; cases ry.str_inv
      exact .inr (.inl ⟨i, j, rfl, rfl, h.1, l.now m (.str _) h.2⟩)
    | _ => exact h.elim
  | lst a =>
    cases dy with
    | lst b =>
      obtain ⟨p, vs, rfl, h1, r1⟩ := rx.lst_inv
      obtain ⟨q, ws, rfl, h2, r2⟩ := ry.lst_inv
      exact .inr (.inr (.inl ⟨p, q, vs, ws, rfl, rfl, h1, h2, by rw [r1.length, r2.length]; exact h.1, al_lst m (r1.append r2) h.2 l⟩))
    | _ => exact h.elim
  | tup a =>
    cases dy with
    | tup b =>
      obtain ⟨p, vs, rfl, h1, r1⟩ := rx.tup_inv
      obtain ⟨q, ws, rfl, h2, r2⟩ := ry.tup_inv
      refine .inr (.inr (.inr ⟨p, q, vs, ws, rfl, rfl, h1, h2, by rw [r1.length, r2.length]; exact h.1, fun e => ?_, fun _ e => ?_, fun _ _ => new_tup m (r1.append r2) h.2 l⟩))
      · subst e
        cases r1
        cases ry with
        | imm r => exact l.now m r h.2
      · subst e
        cases r2
        cases rx with
        | imm r => exact l.now m r (by have := h.2; rwa [List.append_nil] at this)
    | _ => exact h.elim
  | _ => exact h.elim
theorem sv_sub : SimV2 K (rI0 fun i j => .int (i - j)) subD := by
  intro S0 M H x y dx dy Q QD m rx ry h l
  cases dx with
  | int i =>
    cases dy with
    | int j =>
      cases rx.int_inv; cases ry.int_inv
      exact ⟨i, j, rfl, rfl, l.now m (.int _) h⟩
    | _ => exact h.elim
  | _ => exact h.elim
def rMulA : R2 := fun x y H Q => rI CMul (fun i j => .int (i * j)) x y H Q ∨ rI CMulW (fun i j => .int (i * j)) x y H Q ∨ rRep x y H Q
theorem op_mulA : OpR X (binaryOp .Mult) rMulA := op_mul.or (op_mulW.or op_rep)
theorem sv_mul {o : Bool} : SimV2 K rMulA (mulD o) := by
  intro S0 M H x y dx dy Q QD m rx ry h l
  cases dx with
  | int i =>
    cases dy with
    | int j =>
      cases rx.int_inv; cases ry.int_inv
      rcases h.1 with c | c
      · exact .inl ⟨i, j, rfl, rfl, c, l.now m (.int _) h.2⟩
      · exact .inr (.inl ⟨i, j, rfl, rfl, c, l.now m (.int _) h.2⟩)
    | _ => exact h.elim
  | lst a =>
    cases dy with
    | int k =>
      obtain ⟨p, vs, rfl, h1, r1⟩ := rx.lst_inv
      cases ry.int_inv
      exact .inr (.inr ⟨p, k, vs, rfl, rfl, h1, h.1, h.2.1, by rw [r1.length]; exact h.2.2.1, al_lst m (r1.rep _) h.2.2.2 l⟩)
    | _ => exact h.elim
  | _ => exact h.elim
theorem sv_div : SimV2 K (rI CDivW fun i j => .int (i / j)) divD := by
  intro S0 M H x y dx dy Q QD m rx ry h l
  cases dx with
  | int i =>
    cases dy with
    | int j =>
      cases rx.int_inv; cases ry.int_inv
      exact ⟨i, j, rfl, rfl, h.1, l.now m (.int _) h.2⟩
    | _ => exact h.elim
  | _ => exact h.elim
theorem sv_mod : SimV2 K (rI (fun _ j => 0 < j) fun i j => .int (i % j)) modD := by
  intro S0 M H x y dx dy Q QD m rx ry h l
  cases dx with
  | int i =>
    cases dy with
    | int j =>
      cases rx.int_inv; cases ry.int_inv
      exact ⟨i, j, rfl, rfl, h.1, l.now m (.int _) h.2⟩
    | _ => exact h.elim
  | _ => exact h.elim
theorem sv_pow : SimV2 K (rI CPow fun i j => .int (i ^ j.toNat)) powD := by
  intro S0 M H x y dx dy Q QD m rx ry h l
  cases dx with
  | int i =>
    cases dy with
    | int j =>
      cases rx.int_inv; cases ry.int_inv
      exact ⟨i, j, rfl, rfl, h.1, l.now m (.int _) h.2⟩
    | _ => exact h.elim
  | _ => exact h.elim
def rOrd (f : Int → Int → Bool) (g : List Nat → List Nat → Bool) : R2 := fun x y H Q => rI0 (fun i j => .bl (f i j)) x y H Q ∨ ∃ i j, x = .str i ∧ y = .str j ∧ Q (.bl (g i.cps.toList j.cps.toList)) H
theorem sv_ord {f : Int → Int → Bool} {g : List Nat → List Nat → Bool} : SimV2 K (rOrd f g) (ordD f g) := by
  intro S0 M H x y dx dy Q QD m rx ry h l
  cases dx with
  | int i =>
    cases dy with
    | int j =>
      cases rx.int_inv; cases ry.int_inv
      exact .inl ⟨i, j, rfl, rfl, l.now m (.bl _) h⟩
    | _ => exact h.elim
  | str i =>
    cases dy with
    | str j =>
      cases rx.str_inv; cases ry.str_inv
      exact .inr ⟨i, j, rfl, rfl, l.now m (.bl _) h⟩
    | _ => exact h.elim
  | _ => exact h.elim
theorem op_ltA : OpR X (compareOp .Lt) (rOrd (fun i j => decide (i < j)) (fun x y => decide (x < y))) := op_lt.or op_lt_str
theorem op_leA : OpR X (compareOp .LtE) (rOrd (fun i j => decide (i ≤ j)) (fun x y => !decide (y < x))) := op_le.or op_le_str
theorem op_gtA : OpR X (compareOp .Gt) (rOrd (fun i j => decide (j < i)) (fun x y => decide (y < x))) := op_gt.or op_gt_str
theorem op_geA : OpR X (compareOp .GtE) (rOrd (fun i j => decide (j ≤ i)) (fun x y => !decide (x < y))) := op_ge.or op_ge_str
/-! ### - not -/
def negD : D → Mem → DK → Prop
  | .int i, M, Q => Q (.int (-i)) M
  | _, _, _ => False
theorem sv_neg : SimV1 K (rU fun i => .int (-i)) negD := by
  intro S0 M H x dx Q QD m rx h l
  cases dx with
  | int i =>
    cases rx.int_inv
    exact ⟨i, rfl, l.now m (.int _) h⟩
  | _ => exact h.elim

/-! ### == != is -/
mutual
def toPy : D → Option PyData
  | .non => some .none
  | .bl b => some (.bool b)
  | .int i => some (.int i)
  | .str x => some (.str x)
  | .lst xs => (toPys xs).map .list
  | .tup xs => (toPys xs).map .tuple
  | .ref _ => none
  | .ty _ => none
  | .scr _ => none
  | .dic _ => none
  | .obj _ _ => none
def toPys : List D → Option (List PyData)
  | [] => some []
  | d :: ds => (toPy d).bind fun x => (toPys ds).map fun xs => x :: xs
end
mutual
theorem dp_of {S : Mark} {H : Hp} : ∀ (d : D) (v : V) (p : PyData), Rep K S H v d → toPy d = some p → Dp K H v p
  | .non, _, _, r, e => by cases r; cases e; exact .non
  | .bl _, _, _, r, e => by cases r; cases e; exact .bl _
  | .int _, _, _, r, e => by cases r; cases e; exact .int _
  | .str _, _, _, r, e => by cases r; cases e; exact .str _
  | .lst xs, _, _, r, e => by
    cases r with
    | lst h1 h2 h3 =>
      unfold toPy at e
      cases q : toPys xs with
      | none => rw [q] at e; cases e
      | some ps =>
        rw [q] at e
        cases e
        exact .lst (.inl (.inl h2)) (dps_of xs _ _ h3 q)
  | .tup xs, _, _, r, e => by
    cases r with
    | tup h1 h3 =>
      unfold toPy at e
      cases q : toPys xs with
      | none => rw [q] at e; cases e
      | some ps =>
        rw [q] at e
        cases e
        exact .tup h1.sq (dps_of xs _ _ h3 q)
  | .ref _, _, _, _, e => by cases e
  | .ty _, _, _, _, e => by cases e
  | .scr _, _, _, _, e => by cases e
  | .dic _, _, _, _, e => by cases e
  | .obj _ _, _, _, _, e => by cases e
theorem dps_of {S : Mark} {H : Hp} : ∀ (ds : List D) (vs : List V) (ps : List PyData), Reps K S H vs ds → toPys ds = some ps → DpAll K H vs ps
  | [], _, _, r, e => by cases r; cases e; exact .nil
  | d :: ds, _, _, r, e => by
    cases r with
    | cons a b =>
      unfold toPys at e
      cases q : toPy d with
      | none => rw [q] at e; cases e
      | some p =>
        rw [q] at e
        cases q2 : toPys ds with
        | none => rw [q2] at e; cases e
        | some ps =>
          rw [q2] at e
          cases e
          exact .cons (dp_of d _ _ a q) (dps_of ds _ _ b q2)
end
theorem dpT_of {S : Mark} {H : Hp} {v : V} {d : D} {p : PyData} (r : RepT K S H v d) (e : toPy d = some p) : Dp K H v p := by
  cases r with
  | imm r => exact dp_of d v p r e
  | lst h1 h2 =>
    rename_i a vs ds
    unfold toPy at e
    cases q : toPys ds with
    | none => rw [q] at e; cases e
    | some ps =>
      rw [q] at e
      cases e
      exact .lst (.inl (.inl h1)) (dps_of ds _ _ h2 q)
  | dic h1 h2 => cases e
  | obj h1 h2 => cases e
/-- == of plain values -/
def eqS : D → D → Option Bool
  | .int i, .int j => some (decide (i = j))
  | .str x, .str y => some (decide (x = y))
  | .bl a, .bl b => some (decide (a = b))
  | .non, .non => some true
  | .non, .int _ => some false | .int _, .non => some false
  | .non, .str _ => some false | .str _, .non => some false
  | .non, .bl _ => some false | .bl _, .non => some false
  | .int _, .str _ => some false | .str _, .int _ => some false
  | .bl _, .str _ => some false | .str _, .bl _ => some false
  | _, _ => none
def xorB (n c : Bool) : Bool := match n with
  | true => !c
  | false => c
def eqD (n : Bool) (x y : D) (M : Mem) (Q : DK) : Prop := match eqS x y with
  | some c => Q (.bl (xorB n c)) M
  | none => ∃ a b, toPy x = some a ∧ toPy y = some b ∧ SeqAt.shaped a = true ∧ SeqAt.shaped b = true ∧ Q (.bl (xorB n (PyData.eqv a b))) M
theorem eqS_ok {S : Mark} {H : Hp} {x y : V} {dx dy : D} {c : Bool} (rx : RepT K S H x dx) (ry : RepT K S H y dy) (e : eqS dx dy = some c) : scal x y = true ∧ decide (x = y) = c := by
  cases dx <;> cases dy <;> first
    | (cases e; done)
    | ((first | (cases rx.int_inv) | (cases rx.str_inv) | (cases rx.bl_inv) | (cases rx.non_inv)); (first | (cases ry.int_inv) | (cases ry.str_inv) | (cases ry.bl_inv) | (cases ry.non_inv)); cases e; refine ⟨rfl, ?_⟩; simp)
def rEqA (K : PySem.W.Frag) : R2 := fun x y H Q => rEq x y H Q ∨ rEqD K x y H Q
def rNeA (K : PySem.W.Frag) : R2 := fun x y H Q => rNe x y H Q ∨ rNeD K x y H Q
theorem op_eqA (hu : X.A.units + 64 < cLine) : OpR X (compareOp .Eq) (rEqA X.K) := op_eq.or (op_eqD hu)
theorem op_neA (hu : X.A.units + 64 < cLine) : OpR X (compareOp .NotEq) (rNeA X.K) := op_ne.or (op_neD hu)
theorem sv_eq : SimV2 K (rEqA K) (eqD false) := by
  intro S0 M H x y dx dy Q QD m rx ry h l
  unfold eqD at h
  cases e : eqS dx dy with
  | some c =>
    rw [e] at h
    obtain ⟨h1, h2⟩ := eqS_ok rx ry e
    exact .inl ⟨h1, by rw [h2]; exact l.now m (.bl _) h⟩
  | none =>
    rw [e] at h
    obtain ⟨a, b, e1, e2, s1, s2, q⟩ := h
    exact .inr ⟨a, b, dpT_of rx e1, dpT_of ry e2, s1, s2, l.now m (.bl _) q⟩
theorem sv_ne : SimV2 K (rNeA K) (eqD true) := by
  intro S0 M H x y dx dy Q QD m rx ry h l
  unfold eqD at h
  cases e : eqS dx dy with
  | some c =>
    rw [e] at h
    obtain ⟨h1, h2⟩ := eqS_ok rx ry e
    exact .inl ⟨h1, by rw [h2]; exact l.now m (.bl _) h⟩
  | none =>
    rw [e] at h
    obtain ⟨a, b, e1, e2, s1, s2, q⟩ := h
    exact .inr ⟨a, b, dpT_of rx e1, dpT_of ry e2, s1, s2, l.now m (.bl _) q⟩
end
end OD

/-! OD4: places, slices, displays, built-in calls and methods. -/
namespace OD
open PySem PySem.Spec L2

section
variable {X : Cx} {E : L2.St → XK} {K : PySem.W.Frag}

/-! ### x[i] -/
def ixD : D → D → Mem → DK → Prop
  | .lst xs, .int i, M, Q => ∃ d, atI xs i = some d ∧ Q d M
  | .tup xs, .int i, M, Q => ∃ d, atI xs i = some d ∧ Q d M
  | .str z, .int i, M, Q => z.length ≤ sizeLine ∧ ∃ c, atI z.cps.toList i = some c ∧ Q (.str ⟨#[c]⟩) M
  | .dic kvs, .int i, M, Q => ∃ d, (kvs.find? fun kv => decide (kv.1 = Sum.inl i)).map (·.2) = some d ∧ Q d M
  | .dic kvs, .str x, M, Q => ∃ d, (kvs.find? fun kv => decide (kv.1 = Sum.inr x)).map (·.2) = some d ∧ Q d M
  | _, _, _, _ => False
theorem Reps.atI {S : Mark} {H : Hp} {vs : List V} {ds : List D} (h : Reps K S H vs ds) {i : Int} {d : D} (e : L2.atI ds i = some d) : ∃ v, L2.atI vs i = some v ∧ Rep K S H v d := by
  unfold L2.atI at e ⊢
  rw [h.length]
  cases q : ixN ds.length i with
  | none => rw [q] at e; cases e
  | some j =>
    rw [q] at e
    exact h.get e
theorem RepsK.val {S : Mark} {H : Hp} {k : Key} {d : D} : ∀ {kvs : List (Key × D)} {ws : List (Key × V)}, RepsK K S H ws kvs → (kvs.find? fun kv => decide (kv.1 = k)).map (·.2) = some d → ∃ v, valV ws k = some v ∧ Rep K S H v d := by
  intro kvs
  induction kvs with
  | nil => intro ws _ e; cases e
  | cons p r ih =>
    intro ws h e
    cases h with
    | cons a b =>
      rename_i k' v' ws' d'
      by_cases z : k' = k
      · rw [List.find?_cons_of_pos (by simpa using z)] at e
        cases e
        exact ⟨v', valV_pos z, a⟩
      · rw [List.find?_cons_of_neg (by simpa using z)] at e
        obtain ⟨v, h1, h2⟩ := ih b e
        exact ⟨v, by rw [valV_neg z]; exact h1, h2⟩
theorem RepsK.valN {S : Mark} {H : Hp} {k : Key} : ∀ {kvs : List (Key × D)} {ws : List (Key × V)}, RepsK K S H ws kvs → (kvs.find? fun kv => decide (kv.1 = k)).map (·.2) = none → valV ws k = none := by
  intro kvs
  induction kvs with
  | nil => intro ws h _; cases h; rfl
  | cons p r ih =>
    intro ws h e
    cases h with
    | cons a b =>
      rename_i k' v' ws' d'
      by_cases z : k' = k
      · rw [List.find?_cons_of_pos (by simpa using z)] at e
        cases e
      · rw [List.find?_cons_of_neg (by simpa using z)] at e
        rw [valV_neg z]
        exact ih b e
def rIxD : R2 := fun x y H Q => ∃ a v, x = .ref a ∧ DGet H a y (some v) ∧ Q v H
theorem ix_dic (hu : X.A.units + 1 < cLine) : IxR X rIxD := by
  intro value slice pins s σ H x y v u Q I rx ry q hs
  obtain ⟨a, w, rfl, g, q⟩ := q
  cases rx
  refine PyProof.Rows.tail_any (dict_typeIs I g) PySem.F.slot_dict_getitem.lookup (d_getItem hu I g ry fun w' s3 I3 rw' => ⟨w, H, I3, rw', q⟩) hs
def rIxA (K : PySem.W.Frag) : R2 := fun x y H Q => rIx K x y H Q ∨ rIxD x y H Q
theorem ix_all (hu : X.A.units + 1 < cLine) : IxR X (rIxA X.K) := ix_seq.or (ix_dic hu)
theorem sv_ix : SimV2 K (rIxA K) ixD := by
  intro S0 M H x y dx dy Q QD m rx ry h l
  cases dx with
  | lst xs =>
    cases dy with
    | int i =>
      obtain ⟨a, vs, rfl, h1, r1⟩ := rx.lst_inv
      cases ry.int_inv
      obtain ⟨d, e, q⟩ := h
      obtain ⟨v, e2, r⟩ := r1.atI e
      exact .inl (.inl ⟨a, vs, i, v, rfl, rfl, .inl (.inl h1), e2, l.now m r q⟩)
    | _ => exact h.elim
  | tup xs =>
    cases dy with
    | int i =>
      obtain ⟨a, vs, rfl, h1, r1⟩ := rx.tup_inv
      cases ry.int_inv
      obtain ⟨d, e, q⟩ := h
      obtain ⟨v, e2, r⟩ := r1.atI e
      exact .inl (.inr (.inl ⟨a, vs, i, v, rfl, rfl, h1, e2, l.now m r q⟩))
    | _ => exact h.elim
  | str z =>
    cases dy with
    | int i =>
      cases rx.str_inv; cases ry.int_inv
      obtain ⟨hz, c, e, q⟩ := h
      exact .inl (.inr (.inr ⟨z, i, c, rfl, rfl, hz, e, l.now m (.str _) q⟩))
    | _ => exact h.elim
  | dic kvs =>
    obtain ⟨a, vs, rfl, h1, r1⟩ := rx.dic_inv
    cases dy with
    | int i =>
      cases ry.int_inv
      obtain ⟨d, e, q⟩ := h
      obtain ⟨v, e2, r⟩ := r1.val e
      exact .inr ⟨a, v, rfl, by rw [← e2]; exact DGet.k (k := Sum.inl i) h1, l.now m r q⟩
    | str z =>
      cases ry.str_inv
      obtain ⟨d, e, q⟩ := h
      obtain ⟨v, e2, r⟩ := r1.val e
      exact .inr ⟨a, v, rfl, by rw [← e2]; exact DGet.k (k := Sum.inr z) h1, l.now m r q⟩
    | _ => exact h.elim
  | _ => exact h.elim
variable {a b c : Expr} {es : List Expr} {pos : Pos} {da db dc : DE} {dr : DA}
theorem de_ix (hu : X.A.units + 64 < cLine) (ha : DEx X E a da) (hb : DEx X E b db) (hs : PlainIx b := by exact fun _ _ => rfl) : DEx X E (.Subscript a b pos) (dOp ixD da db) := by
  obtain ⟨ta, p1, s1⟩ := ha
  obtain ⟨tb, p2, s2⟩ := hb
  exact ⟨_, pe_ix (ix_all (by omega)) p1 p2 hs, sim_op sv_ix s1 s2⟩

/-! ### x[lo:hi] -/
def cutL {α : Type} (xs : List α) (lo hi : Option Int) : List α := (xs.drop (HT.sIx xs.length 0 lo)).take (HT.sIx xs.length xs.length hi - HT.sIx xs.length 0 lo)
theorem Reps.cut {S : Mark} {H : Hp} {vs : List V} {ds : List D} (h : Reps K S H vs ds) (lo hi : Option Int) : Reps K S H (cutV vs lo hi) (cutL ds lo hi) := by
  unfold cutV cutL
  rw [h.length]
  exact (h.drop _).take _
theorem cutL_map {α β : Type} (f : α → β) (xs : List α) (lo hi : Option Int) : cutL (xs.map f) lo hi = (cutL xs lo hi).map f := by
  unfold cutL
  rw [List.length_map, List.map_take, List.map_drop]
abbrev DO := Slots → Mem → XD → (Option Int → Mem → Prop) → Prop
def SimO (K : PySem.W.Frag) (E : L2.St → XK) (t : TO) (td : DO) : Prop := ∀ (S0 : Mark) (sl : Slots) (M : Mem) (σ : L2.St) (H : Hp) (Q : Option Int → Hp → Prop) (QD : Option Int → Mem → Prop) (ED : XD),
  Ok K S0 sl M σ H → XL K S0 M H (E σ) ED → td sl M ED QD → (∀ b M' H', MemOk K S0 M' H' → Ext M H M' H' → QD b M' → Q b H') → t σ H Q
structure DOx (X : Cx) (E : L2.St → XK) (e : Option Expr) (td : DO) : Prop where
  ex : ∃ t, PO X e t ∧ SimO X.K E t td
def dNoPart : DO := fun _ M _ Q => Q none M
def dPart (t : DE) : DO := fun sl M ED Q => t sl M ED fun x M1 => ∃ i, x = .int i ∧ Q (some i) M1
theorem do_none : DOx X E none dNoPart := ⟨_, po_none, fun S0 sl M σ H Q QD ED k xl hd l => l _ _ _ k.mem (.refl _ _) hd⟩
theorem do_some (h : DEx X E a da) : DOx X E (some a) (dPart da) := by
  obtain ⟨ta, p1, s1⟩ := h
  refine ⟨_, po_some p1, fun S0 sl M σ H Q QD ED k xl hd l => s1 S0 sl M σ H _ _ ED k xl hd fun d1 M1 x H1 m1 x1 r1 q1 => ?_⟩
  obtain ⟨i, e, q⟩ := q1
  subst e
  cases r1
  exact ⟨i, rfl, l _ _ _ m1 x1 q⟩
def slD (o : Bool) : D → Option Int → Option Int → Mem → DK → Prop
  | .lst xs, lo, hi, M, Q => al o (.lst (cutL xs lo hi)) M Q
  | .tup xs, lo, hi, M, Q => Q (.tup (cutL xs lo hi)) M
  | .str z, lo, hi, M, Q => z.length ≤ sizeLine ∧ Q (.str (cutS z lo hi)) M
  | .scr ns, lo, hi, M, Q => al o (.lst ((cutL ns lo hi).map .int)) M Q
  | _, _, _, _, _ => False
def dSl (o : Bool) (da : DE) (dl dh : DO) : DE := fun sl M ED Q => da sl M ED fun x M1 => dl sl M1 ED fun lo M2 => dh sl M2 ED fun hi M3 => vw M3 x fun x' => slD o x' lo hi M3 Q
def rSlAll (K : PySem.W.Frag) : V → Option Int → Option Int → Hp → VK → Prop := fun x lo hi H Q => rSlL K x lo hi H Q ∨ rSlA K x lo hi H Q ∨ rSlS x lo hi H Q
theorem sl_all : SlR X (rSlAll X.K) := sl_list.or (sl_tupA.or sl_str)
theorem de_sl {o : Bool} {lo hi : Option Expr} {p2 : Pos} {dl dh : DO} (ha : DEx X E a da) (hl : DOx X E lo dl) (hh : DOx X E hi dh) : DEx X E (.Subscript a (.Slice lo hi none p2) pos) (dSl o da dl dh) := by
  obtain ⟨ta, p1, s1⟩ := ha
  obtain ⟨tl, p2, s2⟩ := hl
  obtain ⟨th, p3, s3⟩ := hh
  refine ⟨_, pe_slice sl_all p1 p2 p3, fun S0 sl M σ H Q QD ED k xl hd l => ?_⟩
  refine s1 S0 sl M σ H _ _ ED k xl hd fun d1 M1 x H1 m1 x1 r1 q1 => ?_
  refine s2 S0 sl M1 σ H1 _ _ ED (k.ext m1 x1) (xl.ext x1) q1 fun lo M2 H2 m2 x2 q2 => ?_
  have x12 := x1.trans x2
  refine s3 S0 sl M2 σ H2 _ _ ED (k.ext m2 x12) (xl.ext x12) q2 fun hi M3 H3 m3 x3 q3 => ?_
  obtain ⟨w, q, r⟩ := vw_of m3 (r1.ext (x2.trans x3)) q3
  have l' := l.ext (x12.trans x3)
  cases w with
  | lst xs =>
    obtain ⟨a, vs, rfl, h1, r1⟩ := r.lst_inv
    exact .inl ⟨a, vs, rfl, .inl (.inl h1), al_lst m3 (r1.cut lo hi) q l'⟩
  | scr ns =>
    obtain ⟨a, rfl, h1⟩ := r.scr_inv
    refine .inl ⟨a, _, rfl, h1, al_lst m3 ?_ q l'⟩
    have : cutV (ns.map V.int) lo hi = (cutL ns lo hi).map V.int := cutL_map V.int ns lo hi
    rw [this]
    exact .ints _
  | tup xs =>
    obtain ⟨a, vs, rfl, h1, r1⟩ := r.tup_inv
    refine .inr (.inl ⟨a, vs, rfl, h1, fun hw => ?_, fun _ => new_tup m3 (r1.cut lo hi) q l'⟩)
    have : cutL xs lo hi = xs := by
      unfold cutL
      rw [← r1.length, hw.1, hw.2, r1.length]
      simp
    cases r with
    | imm r => exact l'.now m3 r (by rw [← this]; exact q)
  | str z =>
    cases r.str_inv
    exact .inr (.inr ⟨z, rfl, q.1, l'.now m3 (.str _) q.2⟩)
  | _ => exact q.elim

/-! ### arguments, displays -/
def dNil : DA := fun _ M _ Q => Q [] M
def dCons (da : DE) (dr : DA) : DA := fun sl M ED Q => da sl M ED fun x M1 => dr sl M1 ED fun xs M2 => Q (x :: xs) M2
theorem da_nil : DAx X E [] dNil := ⟨_, pa_nil, fun S0 sl M σ H Q QD ED k xl hd l => l _ _ _ _ k.mem (.refl _ _) .nil hd⟩
theorem da_cons (ha : DEx X E a da) (hr : DAx X E es dr) (hs : starEach (a :: es) X.env = (false, eval a X.env) :: starEach es X.env := by rfl) : DAx X E (a :: es) (dCons da dr) := by
  obtain ⟨ta, p1, s1⟩ := ha
  obtain ⟨tr, p2, s2⟩ := hr
  refine ⟨_, pa_cons p1 p2 hs, fun S0 sl M σ H Q QD ED k xl hd l => ?_⟩
  refine s1 S0 sl M σ H _ _ ED k xl hd fun d1 M1 x H1 m1 x1 r1 q1 => ?_
  refine s2 S0 sl M1 σ H1 _ _ ED (k.ext m1 x1) (xl.ext x1) q1 fun ds M2 xs H2 m2 x2 r2 q2 => ?_
  exact l _ _ _ _ m2 (x1.trans x2) (.cons (r1.ext x2) r2) q2
def dTup (dr : DA) : DE := fun sl M ED Q => dr sl M ED fun ds M1 => ds.length ≤ sizeLine ∧ Q (.tup ds) M1
def dLst (o : Bool) (dr : DA) : DE := fun sl M ED Q => dr sl M ED fun ds M1 => ds.length ≤ sizeLine ∧ al o (.lst ds) M1 Q
theorem de_tup {k : Nat} (h : DAx X E es dr) : DEx X E (.Tuple es k pos) (dTup dr) := by
  obtain ⟨tr, p, s⟩ := h
  refine ⟨_, pe_tup p, fun S0 sl M σ H Q QD ED k xl hd l => s S0 sl M σ H _ _ ED k xl hd fun ds M1 vs H1 m1 x1 r1 q1 => ?_⟩
  exact ⟨by rw [r1.length]; exact q1.1, new_tup m1 r1 q1.2 (l.ext x1)⟩
theorem de_lst (o : Bool) (h : DAx X E es dr) : DEx X E (.List es pos) (dLst o dr) := by
  obtain ⟨tr, p, s⟩ := h
  refine ⟨_, pe_lst p, fun S0 sl M σ H Q QD ED k xl hd l => s S0 sl M σ H _ _ ED k xl hd fun ds M1 vs H1 m1 x1 r1 q1 => ?_⟩
  exact ⟨by rw [r1.length]; exact q1.1, al_lst m1 r1 q1.2 (l.ext x1)⟩
def dDic0 (o : Bool) : DE := fun _ M _ Q => al o (.dic []) M Q
theorem de_dic0 (o : Bool) : DEx X E (.Dict [] [] pos) (dDic0 o) := ⟨_, pe_dnewK, fun S0 sl M σ H Q QD ED k xl hd l => al_dic k.mem .nil hd l⟩

/-! ### built-in calls, by values -/
def vws (M : Mem) : List D → (List D → Prop) → Prop
  | [], P => P []
  | d :: ds, P => vw M d fun w => vws M ds fun ws => P (w :: ws)
inductive RepTs (K : PySem.W.Frag) (S : Mark) (H : Hp) : List V → List D → Prop
  | nil : RepTs K S H [] []
  | cons {v : V} {vs : List V} {d : D} {ds : List D} : RepT K S H v d → RepTs K S H vs ds → RepTs K S H (v :: vs) (d :: ds)
theorem vws_of {S0 : Mark} {M : Mem} {H : Hp} (m : MemOk K S0 M H) : ∀ {ds : List D} {vs : List V} {P : List D → Prop}, Reps K (SM S0 M) H vs ds → vws M ds P → ∃ ws, P ws ∧ RepTs K (SM S0 M) H vs ws := by
  intro ds
  induction ds with
  | nil => intro vs P r h; cases r; exact ⟨[], h, .nil⟩
  | cons d ds ih =>
    intro vs P r h
    cases r with
    | cons a b =>
      obtain ⟨w, h1, r1⟩ := vw_of m a h
      obtain ⟨ws, h2, r2⟩ := ih b h1
      exact ⟨w :: ws, h2, .cons r1 r2⟩
abbrev RC := List V → Hp → VK → Prop
abbrev RCD := List D → Mem → DK → Prop
def SimC (K : PySem.W.Frag) (r : RC) (rd : RCD) : Prop := ∀ (S0 : Mark) (M : Mem) (H : Hp) (vs : List V) (ds : List D) (Q : VK) (QD : DK), MemOk K S0 M H → RepTs K (SM S0 M) H vs ds → rd ds M QD → Lk K S0 M H Q QD → r vs H Q
def dCB (rd : RCD) (dr : DA) : DE := fun sl M ED Q => dr sl M ED fun ds M1 => vws M1 ds fun ws => rd ws M1 Q
theorem sim_cb {r : RC} {rd : RCD} {t : TA} {td : DA} (hr : SimC K r rd) (h : SimA K E t td) : SimE K E (tCB r t) (dCB rd td) := by
  intro S0 sl M σ H Q QD ED k xl hd l
  refine h S0 sl M σ H _ _ ED k xl hd fun ds M1 vs H1 m1 x1 r1 q1 => ?_
  obtain ⟨ws, q, r⟩ := vws_of m1 r1 q1
  exact hr S0 M1 H1 vs ws Q QD m1 r q (l.ext x1)
variable {x : Str} {p : Pos} {id T : String} {r : RC} {rd : RCD}
theorem de_callB (hc : CallR X (.builtin id) r) (hs : SimC X.K r rd) (hm : X.mg x = none) (ha : DAx X E (a :: es) dr) (hg : Gl X x := by rfl) (hv : bootBuiltins x = some (.builtin id) := by decide +kernel) (hn : x ≠ "__name__" := by decide) (hdb : (x == ("__debug__" : Str)) = false := by decide)
    (he : starEach (a :: es) X.env = (false, eval a X.env) :: starEach es X.env := by rfl) (hpl : (backTo pos (starEach es X.env)).any (·.1) = false := by rfl) : DEx X E (.Call (.Name x p) (a :: es) [] pos) (dCB rd dr) := by
  obtain ⟨ta, p1, s1⟩ := ha
  exact ⟨_, pe_callB hc hg hm hv p1 hn hdb he hpl, sim_cb hs s1⟩
theorem de_callTy (hc : CallR X (.type T) r) (hs : SimC X.K r rd) (hm : X.mg x = none) (ha : DAx X E (a :: es) dr) (hg : Gl X x := by rfl) (hv : bootBuiltins x = some (.type T) := by decide +kernel) (hn : x ≠ "__name__" := by decide) (hdb : (x == ("__debug__" : Str)) = false := by decide)
    (he : starEach (a :: es) X.env = (false, eval a X.env) :: starEach es X.env := by rfl) (hpl : (backTo pos (starEach es X.env)).any (·.1) = false := by rfl) : DEx X E (.Call (.Name x p) (a :: es) [] pos) (dCB rd dr) := by
  obtain ⟨ta, p1, s1⟩ := ha
  exact ⟨_, pe_callTy hc hg hm hv p1 hn hdb he hpl, sim_cb hs s1⟩

/-! of one argument -/
def oneD (f : D → Mem → DK → Prop) : RCD
  | [d], M, Q => f d M Q
  | _, _, _ => False
theorem sc_one {f : D → Mem → DK → Prop} (h : ∀ (S0 : Mark) (M : Mem) (H : Hp) (v : V) (d : D) (Q : VK) (QD : DK), MemOk K S0 M H → RepT K (SM S0 M) H v d → f d M QD → Lk K S0 M H Q QD → r [v] H Q) : SimC K r (oneD f) := by
  intro S0 M H vs ds Q QD m rs hd l
  cases rs with
  | nil => exact hd.elim
  | cons a b =>
    cases b with
    | nil => exact h S0 M H _ _ Q QD m a hd l
    | cons _ _ => exact hd.elim
def twoD (f : D → D → Mem → DK → Prop) : RCD
  | [d, e], M, Q => f d e M Q
  | _, _, _ => False
theorem sc_two {f : D → D → Mem → DK → Prop} (h : ∀ (S0 : Mark) (M : Mem) (H : Hp) (v w : V) (d e : D) (Q : VK) (QD : DK), MemOk K S0 M H → RepT K (SM S0 M) H v d → RepT K (SM S0 M) H w e → f d e M QD → Lk K S0 M H Q QD → r [v, w] H Q) : SimC K r (twoD f) := by
  intro S0 M H vs ds Q QD m rs hd l
  cases rs with
  | nil => exact hd.elim
  | cons a b =>
    cases b with
    | nil => exact hd.elim
    | cons a2 b =>
      cases b with
      | nil => exact h S0 M H _ _ _ _ Q QD m a a2 hd l
      | cons _ _ => exact hd.elim
/-! len -/
def lenD : RCD := oneD fun d M Q => match d with
  | .lst xs => Q (.int xs.length) M
  | .tup xs => Q (.int xs.length) M
  | .str z => z.length ≤ sizeLine ∧ Q (.int z.length) M
  | .dic kvs => Q (.int kvs.length) M
  | _ => False
def rLenA (K : PySem.W.Frag) : RC := fun xs H Q => (∃ p ys, xs = [.ref p] ∧ (SqL K H p ys ∨ SqT K H p ys) ∧ Q (.int ys.length) H) ∨ (∃ z, xs = [.str z] ∧ z.length ≤ sizeLine ∧ Q (.int z.length) H) ∨ ∃ a kvs, xs = [V.ref a] ∧ H a = some (.dK kvs) ∧ Q (.int kvs.length) H
theorem call_lenA : CallR X (.builtin "len") (rLenA X.K) := call_len_seq.or (call_len_str.or call_lenD)
theorem RepsK.length {S : Mark} {H : Hp} : ∀ {kvs : List (Key × D)} {ws : List (Key × V)}, RepsK K S H ws kvs → ws.length = kvs.length := by
  intro kvs
  induction kvs with
  | nil => intro ws h; cases h; rfl
  | cons p r ih => intro ws h; cases h with | cons a b => rw [List.length_cons, List.length_cons, ih b]
theorem sc_len : SimC K (rLenA K) lenD := sc_one fun S0 M H v d Q QD m r h l => by
  cases d with
  | lst xs =>
    obtain ⟨a, vs, rfl, h1, r1⟩ := r.lst_inv
    exact .inl ⟨a, vs, rfl, .inl (.inl (.inl h1)), by rw [r1.length]; exact l.now m (.int _) h⟩
  | tup xs =>
    obtain ⟨a, vs, rfl, h1, r1⟩ := r.tup_inv
    exact .inl ⟨a, vs, rfl, .inr h1, by rw [r1.length]; exact l.now m (.int _) h⟩
  | str z =>
    cases r.str_inv
    exact .inr (.inl ⟨z, rfl, h.1, l.now m (.int _) h.2⟩)
  | dic kvs =>
    obtain ⟨a, vs, rfl, h1, r1⟩ := r.dic_inv
    exact .inr (.inr ⟨a, vs, rfl, h1, by rw [r1.length]; exact l.now m (.int _) h⟩)
  | _ => exact h.elim
/-! abs, max, min of two, int, sum, all, any -/
def absD : RCD := oneD fun d M Q => match d with
  | .int i => Q (.int (if i < 0 then -i else i)) M
  | _ => False
theorem sc_abs : SimC K (fun xs H Q => ∃ i, xs = [.int i] ∧ Q (.int (if i < 0 then -i else i)) H) absD := sc_one fun S0 M H v d Q QD m r h l => by
  cases d with
  | int i => cases r.int_inv; exact ⟨i, rfl, l.now m (.int _) h⟩
  | _ => exact h.elim
def max2D : RCD := twoD fun d e M Q => match d, e with
  | .int i, .int j => Q (.int (if j > i then j else i)) M
  | _, _ => False
def min2D : RCD := twoD fun d e M Q => match d, e with
  | .int i, .int j => Q (.int (if j < i then j else i)) M
  | _, _ => False
theorem sc_max2 : SimC K (fun xs H Q => ∃ i j, xs = [.int i, .int j] ∧ Q (.int (if j > i then j else i)) H) max2D := sc_two fun S0 M H v w d e Q QD m r r2 h l => by
  cases d with
  | int i =>
    cases e with
    | int j => cases r.int_inv; cases r2.int_inv; exact ⟨i, j, rfl, l.now m (.int _) h⟩
    | _ => exact h.elim
  | _ => exact h.elim
theorem sc_min2 : SimC K (fun xs H Q => ∃ i j, xs = [.int i, .int j] ∧ Q (.int (if j < i then j else i)) H) min2D := sc_two fun S0 M H v w d e Q QD m r r2 h l => by
  cases d with
  | int i =>
    cases e with
    | int j => cases r.int_inv; cases r2.int_inv; exact ⟨i, j, rfl, l.now m (.int _) h⟩
    | _ => exact h.elim
  | _ => exact h.elim
def maxLD : RCD := oneD fun d M Q => match d with
  | .lst xs => ∃ ns : List Int, xs = ns.map .int ∧ 0 < ns.length ∧ ∀ m, m ∈ ns → (∀ y, y ∈ ns → y ≤ m) → Q (.int m) M
  | _ => False
def minLD : RCD := oneD fun d M Q => match d with
  | .lst xs => ∃ ns : List Int, xs = ns.map .int ∧ 0 < ns.length ∧ ∀ m, m ∈ ns → (∀ y, y ∈ ns → m ≤ y) → Q (.int m) M
  | _ => False
theorem sc_maxL : SimC K (rMax K) maxLD := sc_one fun S0 M H v d Q QD m r h l => by
  cases d with
  | lst xs =>
    obtain ⟨a, vs, rfl, h1, r1⟩ := r.lst_inv
    obtain ⟨ns, rfl, h2, h3⟩ := h
    cases r1.ints_inv
    exact ⟨a, ns, rfl, .inl (.inl h1), h2, fun k e1 e2 => l.now m (.int _) (h3 k e1 e2)⟩
  | _ => exact h.elim
theorem sc_minL : SimC K (rMin K) minLD := sc_one fun S0 M H v d Q QD m r h l => by
  cases d with
  | lst xs =>
    obtain ⟨a, vs, rfl, h1, r1⟩ := r.lst_inv
    obtain ⟨ns, rfl, h2, h3⟩ := h
    cases r1.ints_inv
    exact ⟨a, ns, rfl, .inl (.inl h1), h2, fun k e1 e2 => l.now m (.int _) (h3 k e1 e2)⟩
  | _ => exact h.elim
def intD : RCD := oneD fun d M Q => match d with
  | .int i => Q (.int i) M
  | .bl k => Q (.int (if k then 1 else 0)) M
  | _ => False
theorem sc_int : SimC K (fun xs H Q => (∃ i, xs = [.int i] ∧ Q (.int i) H) ∨ ∃ k, xs = [.bl k] ∧ Q (.int (if k then 1 else 0)) H) intD := sc_one fun S0 M H v d Q QD m r h l => by
  cases d with
  | int i => cases r.int_inv; exact .inl ⟨i, rfl, l.now m (.int _) h⟩
  | bl i => cases r.bl_inv; exact .inr ⟨i, rfl, l.now m (.int _) h⟩
  | _ => exact h.elim
def sumD : RCD := oneD fun d M Q => match d with
  | .lst xs => ∃ ns : List Int, xs = ns.map .int ∧ Q (.int ns.sum) M
  | _ => False
theorem sc_sum : SimC K (rSum K) sumD := sc_one fun S0 M H v d Q QD m r h l => by
  cases d with
  | lst xs =>
    obtain ⟨a, vs, rfl, h1, r1⟩ := r.lst_inv
    obtain ⟨ns, rfl, h3⟩ := h
    cases r1.ints_inv
    exact ⟨a, ns, rfl, .inl (.inl h1), l.now m (.int _) h3⟩
  | _ => exact h.elim
def allD : RCD := oneD fun d M Q => match d with
  | .lst xs => ∃ bs : List Bool, xs = bs.map .bl ∧ Q (.bl (bs.all _root_.id)) M
  | _ => False
theorem sc_all : SimC K (rAll K) allD := sc_one fun S0 M H v d Q QD m r h l => by
  cases d with
  | lst xs =>
    obtain ⟨a, vs, rfl, h1, r1⟩ := r.lst_inv
    obtain ⟨ns, rfl, h3⟩ := h
    cases r1.bls_inv
    exact ⟨a, ns, rfl, .inl (.inl h1), l.now m (.bl _) h3⟩
  | _ => exact h.elim
/-! list(x), tuple(x) -/
def listD (o : Bool) : RCD := oneD fun d M Q => match d with
  | .lst xs => al o (.lst xs) M Q
  | .tup xs => al o (.lst xs) M Q
  | _ => False
def rListA (K : PySem.W.Frag) : RC := fun xs H Q => ∃ p ys, xs = [.ref p] ∧ (SqL K H p ys ∨ SqT K H p ys) ∧ ∀ l, H l = none → Q (.ref l) (upd H l (.lst ys))
theorem sc_list {o : Bool} : SimC K (rListA K) (listD o) := sc_one fun S0 M H v d Q QD m r h l => by
  cases d with
  | lst xs =>
    obtain ⟨a, vs, rfl, h1, r1⟩ := r.lst_inv
    exact ⟨a, vs, rfl, .inl (.inl (.inl h1)), al_lst m r1 h l⟩
  | tup xs =>
    obtain ⟨a, vs, rfl, h1, r1⟩ := r.tup_inv
    exact ⟨a, vs, rfl, .inr h1, al_lst m r1 h l⟩
  | _ => exact h.elim
def tupleD : RCD := oneD fun d M Q => match d with
  | .lst xs => Q (.tup xs) M
  | .tup xs => Q (.tup xs) M
  | _ => False
def rTupleA (K : PySem.W.Frag) : RC := fun xs H Q => ∃ p ys, xs = [.ref p] ∧ ((SqL K H p ys ∧ ∀ l, H l = none → Q (.ref l) (upd H l (.tup ys))) ∨ (SqT K H p ys ∧ Q (.ref p) H))
theorem sc_tuple : SimC K (rTupleA K) tupleD := sc_one fun S0 M H v d Q QD m r h l => by
  cases d with
  | lst xs =>
    obtain ⟨a, vs, rfl, h1, r1⟩ := r.lst_inv
    exact ⟨a, vs, rfl, .inl ⟨.inl (.inl h1), new_tup m r1 h l⟩⟩
  | tup xs =>
    obtain ⟨a, vs, rfl, h1, r1⟩ := r.tup_inv
    cases r with
    | imm r => exact ⟨a, vs, rfl, .inr ⟨h1, l.now m r h⟩⟩
  | _ => exact h.elim
/-! isinstance(x, T), T built in -/
def tyD : D → Option String
  | .non => some "NoneType" | .bl _ => some "bool" | .int _ => some "int" | .str _ => some "str" | .lst _ => some "list" | .tup _ => some "tuple" | .dic _ => some "dict"
  | _ => none
def isiD : RCD := twoD fun d e M Q => match e with
  | .ty n => ∃ t b, tyD d = some t ∧ kitB t n = some b ∧ Q (.bl b) M
  | _ => False
theorem sc_isi : SimC K (rIsi K) isiD := sc_two fun S0 M H v w d e Q QD m r r2 h l => by
  cases e with
  | ty n =>
    cases r2.ty_inv
    obtain ⟨t, b, e, kb, q⟩ := h
    have fin : ∀ (x : V), TyX K H x (.type t) → rIsi K [x, .ty n] H Q := fun x hx => ⟨x, .ty n, .type t, .type n, b, rfl, .ty n, hx, kit_ty kb, l.now m (.bl _) q⟩
    cases d with
    | non => cases e; cases r.non_inv; exact fin _ (.base .non)
    | bl i => cases e; cases r.bl_inv; exact fin _ (.base (.bl _))
    | int i => cases e; cases r.int_inv; exact fin _ (.base (.int _))
    | str i => cases e; cases r.str_inv; exact fin _ (.base (.str _))
    | lst xs => cases e; obtain ⟨a, vs, rfl, h1, r1⟩ := r.lst_inv; exact fin _ (.base (.lst h1))
    | dic xs => cases e; obtain ⟨a, vs, rfl, h1, r1⟩ := r.dic_inv; exact fin _ (.base (.dK h1))
    | tup xs =>
      cases e; obtain ⟨a, vs, rfl, h1, r1⟩ := r.tup_inv
      rcases h1 with (h1 | ⟨o, h1⟩) | ⟨o, its, n', h1, h2, _⟩
      · exact fin _ (.base (.tup h1))
      · exact fin _ (.fTuple h1)
      · exact fin _ (.kTuple h1 h2)
    | _ => cases e
  | _ => exact h.elim
end
end OD

/-! OD5: tests, calls of own defs, statements. -/
namespace OD
open PySem PySem.Spec L2

section
variable {X : Cx} {E : L2.St → XK} {K : PySem.W.Frag} {a b c : Expr} {es : List Expr} {pos : Pos} {da db dc : DE} {dr : DA} {ta tb : DT}

/-! ### tests -/
def truD (d : D) (M : Mem) (Q : Bool → Mem → Prop) : Prop := match d with
  | .non => Q false M
  | .bl b => Q b M
  | .int i => Q (i != 0) M
  | .str y => y.length ≤ sizeLine ∧ Q ((y.length : Int) != 0) M
  | .lst xs => Q (!xs.isEmpty) M
  | .tup xs => Q (!xs.isEmpty) M
  | .dic kvs => Q (!kvs.isEmpty) M
  | _ => False
def dTru (da : DE) : DT := fun sl M ED Q => da sl M ED fun x M1 => vw M1 x fun w => truD w M1 Q
theorem isEmpty_len {α β : Type} {xs : List α} {ys : List β} (h : xs.length = ys.length) : xs.isEmpty = ys.isEmpty := by
  cases xs <;> cases ys <;> first | rfl | cases h
theorem dt_tru (ha : DEx X E a da) (he : ∀ whole, isTrue a X.env whole = (do let v ← whole; standAt a.pos; holding [v] (truthy v)) := by intro _; rfl) : DTx X E a (dTru da) := by
  obtain ⟨t, p, s⟩ := ha
  refine ⟨_, pt_truth p he, fun S0 sl M σ H Q QD ED k xl hd l => s S0 sl M σ H _ _ ED k xl hd fun d1 M1 x H1 m1 x1 r1 q1 => ?_⟩
  obtain ⟨w, q, r⟩ := vw_of m1 r1 q1
  cases w with
  | non => cases r.non_inv; exact ⟨false, rfl, l _ _ _ m1 x1 q⟩
  | bl b => cases r.bl_inv; exact ⟨b, rfl, l _ _ _ m1 x1 q⟩
  | int i => cases r.int_inv; exact ⟨_, rfl, l _ _ _ m1 x1 q⟩
  | str y => cases r.str_inv; exact ⟨_, ⟨q.1, rfl⟩, l _ _ _ m1 x1 q.2⟩
  | lst xs =>
    obtain ⟨a, vs, rfl, h1, r1⟩ := r.lst_inv
    exact ⟨_, .inl ⟨vs, .inl (.inl h1), rfl⟩, by rw [isEmpty_len r1.length]; exact l _ _ _ m1 x1 q⟩
  | tup xs =>
    obtain ⟨a, vs, rfl, h1, r1⟩ := r.tup_inv
    exact ⟨_, .inr (.inl ⟨vs, h1, rfl⟩), by rw [isEmpty_len r1.length]; exact l _ _ _ m1 x1 q⟩
  | dic kvs =>
    obtain ⟨a, vs, rfl, h1, r1⟩ := r.dic_inv
    exact ⟨_, .inr (.inr ⟨vs, h1, rfl⟩), by rw [isEmpty_len r1.length]; exact l _ _ _ m1 x1 q⟩
  | _ => exact q.elim
def dAnd (t u : DT) : DT := fun sl M ED Q => t sl M ED fun c M1 => if c = true then u sl M1 ED Q else Q false M1
def dOr (t u : DT) : DT := fun sl M ED Q => t sl M ED fun c M1 => if c = true then Q true M1 else u sl M1 ED Q
def dNot (t : DT) : DT := fun sl M ED Q => t sl M ED fun c M1 => Q (!c) M1
theorem DWx.dt (h : DWx X E a ta) : DTx X E a ta := by
  obtain ⟨t, p, s⟩ := h
  exact ⟨_, p.pt, s⟩
theorem dw_and1 (h : DTx X E a ta) : DWx X E (.BoolOp .And [a] pos) ta := by
  obtain ⟨t, p, s⟩ := h
  exact ⟨_, pw_and1 p, s⟩
theorem dw_or1 (h : DTx X E a ta) : DWx X E (.BoolOp .Or [a] pos) ta := by
  obtain ⟨t, p, s⟩ := h
  exact ⟨_, pw_or1 p, s⟩
theorem sim_and {t u : TT} (h1 : SimT K E t ta) (h2 : SimT K E u tb) : SimT K E (tAnd t u) (dAnd ta tb) := fun S0 sl M σ H Q QD ED k xl hd l => h1 S0 sl M σ H _ _ ED k xl hd fun c M1 H1 m1 x1 q => by
  cases c with
  | true => rw [if_pos rfl] at q ⊢; exact h2 S0 sl M1 σ H1 Q QD ED (k.ext m1 x1) (xl.ext x1) q fun c M2 H2 m2 x2 q => l c M2 H2 m2 (x1.trans x2) q
  | false => rw [if_neg Bool.false_ne_true] at q ⊢; exact l _ _ _ m1 x1 q
theorem sim_or {t u : TT} (h1 : SimT K E t ta) (h2 : SimT K E u tb) : SimT K E (tOr t u) (dOr ta tb) := fun S0 sl M σ H Q QD ED k xl hd l => h1 S0 sl M σ H _ _ ED k xl hd fun c M1 H1 m1 x1 q => by
  cases c with
  | false => rw [if_neg Bool.false_ne_true] at q ⊢; exact h2 S0 sl M1 σ H1 Q QD ED (k.ext m1 x1) (xl.ext x1) q fun c M2 H2 m2 x2 q => l c M2 H2 m2 (x1.trans x2) q
  | true => rw [if_pos rfl] at q ⊢; exact l _ _ _ m1 x1 q
theorem dw_and (h1 : DTx X E a ta) (h2 : DWx X E (.BoolOp .And (b :: es) pos) tb) : DWx X E (.BoolOp .And (a :: b :: es) pos) (dAnd ta tb) := by
  obtain ⟨t, p, s⟩ := h1
  obtain ⟨u, q, r⟩ := h2
  exact ⟨_, pw_and p q, sim_and s r⟩
theorem dw_or (h1 : DTx X E a ta) (h2 : DWx X E (.BoolOp .Or (b :: es) pos) tb) : DWx X E (.BoolOp .Or (a :: b :: es) pos) (dOr ta tb) := by
  obtain ⟨t, p, s⟩ := h1
  obtain ⟨u, q, r⟩ := h2
  exact ⟨_, pw_or p q, sim_or s r⟩
theorem dt_not (h : DTx X E a ta) : DTx X E (.UnaryOp .Not a pos) (dNot ta) := by
  obtain ⟨t, p, s⟩ := h
  exact ⟨_, pt_not p, fun S0 sl M σ H Q QD ED k xl hd l => s S0 sl M σ H _ _ ED k xl hd fun c M1 H1 m1 x1 q => l _ _ _ m1 x1 q⟩
/-! .. as values: bools -/
def dAndV (t u : DE) : DE := fun sl M ED Q => t sl M ED fun x M1 => ∃ c, x = .bl c ∧ if c = true then u sl M1 ED Q else Q (.bl false) M1
def dOrV (t u : DE) : DE := fun sl M ED Q => t sl M ED fun x M1 => ∃ c, x = .bl c ∧ if c = true then Q (.bl true) M1 else u sl M1 ED Q
def dNotV (t : DE) : DE := fun sl M ED Q => t sl M ED fun x M1 => ∃ c, x = .bl c ∧ Q (.bl (!c)) M1
theorem de_one {op} (h : DEx X E a da) : DEx X E (.BoolOp op [a] pos) da := by
  obtain ⟨t, p, s⟩ := h
  exact ⟨_, pe_one p, s⟩
theorem de_and (h1 : DEx X E a da) (h2 : DEx X E (.BoolOp .And (b :: es) pos) db) : DEx X E (.BoolOp .And (a :: b :: es) pos) (dAndV da db) := by
  obtain ⟨t, p, s⟩ := h1
  obtain ⟨u, q, r⟩ := h2
  refine ⟨_, pe_and p q, fun S0 sl M σ H Q QD ED k xl hd l => s S0 sl M σ H _ _ ED k xl hd fun d1 M1 x H1 m1 x1 r1 q1 => ?_⟩
  obtain ⟨c, rfl, q⟩ := q1
  cases r1
  refine ⟨c, rfl, ?_⟩
  cases c with
  | true => rw [if_pos rfl] at q ⊢; exact r S0 sl M1 σ H1 Q QD ED (k.ext m1 x1) (xl.ext x1) q (l.ext x1)
  | false => rw [if_neg Bool.false_ne_true] at q ⊢; exact l _ _ _ _ m1 x1 (.bl _) q
theorem de_or (h1 : DEx X E a da) (h2 : DEx X E (.BoolOp .Or (b :: es) pos) db) : DEx X E (.BoolOp .Or (a :: b :: es) pos) (dOrV da db) := by
  obtain ⟨t, p, s⟩ := h1
  obtain ⟨u, q, r⟩ := h2
  refine ⟨_, pe_or p q, fun S0 sl M σ H Q QD ED k xl hd l => s S0 sl M σ H _ _ ED k xl hd fun d1 M1 x H1 m1 x1 r1 q1 => ?_⟩
  obtain ⟨c, rfl, q⟩ := q1
  cases r1
  refine ⟨c, rfl, ?_⟩
  cases c with
  | false => rw [if_neg Bool.false_ne_true] at q ⊢; exact r S0 sl M1 σ H1 Q QD ED (k.ext m1 x1) (xl.ext x1) q (l.ext x1)
  | true => rw [if_pos rfl] at q ⊢; exact l _ _ _ _ m1 x1 (.bl _) q
theorem de_not (h : DEx X E a da) : DEx X E (.UnaryOp .Not a pos) (dNotV da) := by
  obtain ⟨t, p, s⟩ := h
  refine ⟨_, pe_not p, fun S0 sl M σ H Q QD ED k xl hd l => s S0 sl M σ H _ _ ED k xl hd fun d1 M1 x H1 m1 x1 r1 q1 => ?_⟩
  obtain ⟨c, rfl, q⟩ := q1
  cases r1
  exact ⟨c, rfl, l _ _ _ _ m1 x1 (.bl _) q⟩
def dIf (t : DT) (da db : DE) : DE := fun sl M ED Q => t sl M ED fun c M1 => if c = true then da sl M1 ED Q else db sl M1 ED Q
theorem de_if (hc : DTx X E c ta) (h1 : DEx X E a da) (h2 : DEx X E b db) : DEx X E (.IfExp c a b pos) (dIf ta da db) := by
  obtain ⟨t, p, s⟩ := hc
  obtain ⟨u, q, r⟩ := h1
  obtain ⟨u2, q2, r2⟩ := h2
  refine ⟨_, pe_ifExp p q q2, fun S0 sl M σ H Q QD ED k xl hd l => s S0 sl M σ H _ _ ED k xl hd fun c M1 H1 m1 x1 q => ?_⟩
  cases c with
  | true => rw [if_pos rfl] at q ⊢; exact r S0 sl M1 σ H1 Q QD ED (k.ext m1 x1) (xl.ext x1) q (l.ext x1)
  | false => rw [if_neg Bool.false_ne_true] at q ⊢; exact r2 S0 sl M1 σ H1 Q QD ED (k.ext m1 x1) (xl.ext x1) q (l.ext x1)
/-- either of two readings -/
def dEither (da db : DE) : DE := fun sl M ED Q => da sl M ED Q ∨ db sl M ED Q
theorem de_either (h1 : DEx X E a da) (h2 : DEx X E a db) : DEx X E a (dEither da db) := by
  obtain ⟨t, p, s⟩ := h1
  obtain ⟨u, q, r⟩ := h2
  refine ⟨fun σ H Q => t σ H Q ∨ u σ H Q, ⟨fun pins st σ H Q I h => h.elim (p.run pins st σ H Q I) (q.run pins st σ H Q I)⟩, fun S0 sl M σ H Q QD ED k xl hd l => ?_⟩
  exact hd.imp (fun z => s S0 sl M σ H Q QD ED k xl z l) (fun z => r S0 sl M σ H Q QD ED k xl z l)
end

/-! ### promises of defs -/
/-- a def over data: its arguments, the owned objects that it is handed, what is wanted of an exception, of the value -/
abbrev FD := List D → Mem → XD → DK → Prop
def Pre (M M' : Mem) : Prop := keys (M'.take M.length) = keys M
def spD (K : PySem.W.Frag) (F : FD) : Sp := fun vs H Q E => ∃ (S0 : Mark) (ds : List D) (M : Mem) (QD : DK) (ED : XD), MemOk K S0 M H ∧ Reps K (SM S0 M) H vs ds ∧ F ds M ED QD ∧
  (∀ (d : D) (M' : Mem) (v : V) (H' : Hp), MemOk K S0 M' H' → Ext M H M' H' → Pre M M' → Rep K (SM S0 M') H' v d → QD d M' → Q v H') ∧
  (∀ (cls : Value) (fs : Option (List (Str × D))) (M' : Mem) (dd : Option Addr) (H' : Hp), MemOk K S0 M' H' → Ext M H M' H' → Pre M M' → XRep K (SM S0 M') H' dd fs → ED cls fs M' → E cls dd H')

def sel (ks : List Nat) (M : Mem) : Mem := ks.filterMap fun k => M[k]?
def putM : List Nat → Mem → Mem → Mem
  | [], M, Mc => M ++ Mc
  | k :: ks, M, e :: Mc => putM ks (M.set k e) Mc
  | _ :: _, M, [] => M

theorem sel_cons (k : Nat) (ks : List Nat) (M : Mem) : sel (k :: ks) M = (match M[k]? with | some e => [e] | none => []) ++ sel ks M := by
  unfold sel
  rw [List.filterMap_cons]
  cases M[k]? <;> rfl
theorem filterMap_eq {α β : Type} {f g : α → Option β} : ∀ {l : List α}, (∀ x ∈ l, f x = g x) → l.filterMap f = l.filterMap g := by
  intro l
  induction l with
  | nil => intro _; rfl
  | cons x l ih =>
    intro h
    rw [List.filterMap_cons, List.filterMap_cons, h x (by simp), ih fun y hy => h y (List.mem_cons_of_mem _ hy)]
theorem sel_at {ks : List Nat} {M : Mem} (h : (sel ks M).length = ks.length) : ∀ k ∈ ks, k < M.length := by
  induction ks with
  | nil => intro k hk; cases hk
  | cons j ks ih =>
    rw [sel_cons] at h
    have hle : (sel ks M).length ≤ ks.length := List.length_filterMap_le _ _
    cases e : M[j]? with
    | none =>
      rw [e] at h
      simp at h
      omega
    | some x =>
      rw [e] at h
      have h2 : (sel ks M).length = ks.length := by simpa using h
      intro k hk
      rcases List.mem_cons.mp hk with rfl | hk
      · exact (List.getElem?_eq_some_iff.mp e).1
      · exact ih h2 k hk
theorem mem_sel {ks : List Nat} {M : Mem} {e : Addr × N} : e ∈ sel ks M ↔ ∃ k ∈ ks, M[k]? = some e := by
  unfold sel
  rw [List.mem_filterMap]
theorem key_ix {M : Mem} (nd : (keys M).Nodup) {i j : Nat} {e f : Addr × N} (a : M[i]? = some e) (b : M[j]? = some f) (h : e.1 = f.1) : i = j := by
  have h1 : (keys M)[i]? = some e.1 := by unfold keys; rw [List.getElem?_map, a]; rfl
  have h2 : (keys M)[j]? = some e.1 := by unfold keys; rw [List.getElem?_map, b, h]; rfl
  obtain ⟨l1, e1⟩ := List.getElem?_eq_some_iff.mp h1
  obtain ⟨l2, e2⟩ := List.getElem?_eq_some_iff.mp h2
  exact (List.getElem_inj nd).mp (e1.trans e2.symm)
theorem nodup_sel {ks : List Nat} {M : Mem} (hk : ks.Nodup) (nd : (keys M).Nodup) : (keys (sel ks M)).Nodup := by
  induction ks with
  | nil => exact List.nodup_nil
  | cons k ks ih =>
    obtain ⟨h1, h2⟩ := List.nodup_cons.mp hk
    rw [sel_cons]
    cases e : M[k]? with
    | none => exact ih h2
    | some x =>
      show (x.1 :: keys (sel ks M)).Nodup
      refine List.nodup_cons.mpr ⟨fun hm => ?_, ih h2⟩
      obtain ⟨y, hy, ey⟩ := List.mem_map.mp hm
      obtain ⟨j, hj, ej⟩ := mem_sel.mp hy
      exact h1 (key_ix nd e ej ey.symm ▸ hj)
/-- what is put back: keys -/
theorem keys_put : ∀ {ks : List Nat} {M Mc : Mem}, ks.Nodup → (sel ks M).length = ks.length → keys (Mc.take ks.length) = keys (sel ks M) → keys (putM ks M Mc) = keys M ++ keys (Mc.drop ks.length) := by
  intro ks
  induction ks with
  | nil => intro M Mc _ _ _; show keys (M ++ Mc) = _; rw [keys_append]; rfl
  | cons k ks ih =>
    intro M Mc hk hl he
    obtain ⟨h1, h2⟩ := List.nodup_cons.mp hk
    have hlt := sel_at hl k (by simp)
    have ek : M[k]? = some M[k] := List.getElem?_eq_getElem hlt
    rw [sel_cons, ek] at hl he
    have hl2 : (sel ks M).length = ks.length := by simpa using hl
    cases Mc with
    | nil => cases he
    | cons e Mc =>
      have he' : e.1 :: keys (Mc.take ks.length) = M[k].1 :: keys (sel ks M) := he
      obtain ⟨q1, q2⟩ := List.cons.inj he'
      have ks_same : sel ks (M.set k e) = sel ks M := by
        unfold sel
        refine filterMap_eq fun j hj => ?_
        rw [List.getElem?_set_ne]
        intro z; subst z; exact h1 hj
      have kset : keys (M.set k e) = keys M := by
        have := keys_set (M := M) (k := k) (p := M[k].1) (n := M[k].2) (n' := e.2) ek
        rw [← this]
        unfold keys
        rw [show ((M[k].1, e.2) : Addr × N) = e from by rw [← q1]]
      show keys (putM ks (M.set k e) Mc) = keys M ++ keys (Mc.drop ks.length)
      rw [ih h2 (by rw [ks_same]; exact hl2) (by rw [ks_same]; exact q2), kset]
theorem mem_put : ∀ {ks : List Nat} {M Mc : Mem} {e : Addr × N}, (sel ks M).length = ks.length → ks.length ≤ Mc.length → e ∈ putM ks M Mc → e ∈ Mc ∨ ∃ k, k ∉ ks ∧ M[k]? = some e := by
  intro ks
  induction ks with
  | nil =>
    intro M Mc e _ _ h
    rcases List.mem_append.mp h with h | h
    · obtain ⟨k, hk⟩ := List.getElem?_of_mem h
      exact .inr ⟨k, by simp, hk⟩
    · exact .inl h
  | cons k ks ih =>
    intro M Mc e hl hc h
    cases Mc with
    | nil => simp at hc
    | cons f Mc =>
      have hlt := sel_at hl k (by simp)
      have hl2 : (sel ks (M.set k f)).length = ks.length := by
        have hall := sel_at hl
        unfold sel
        have : ∀ (l : List Nat), (∀ j ∈ l, j < M.length) → (l.filterMap fun j => (M.set k f)[j]?).length = l.length := by
          intro l
          induction l with
          | nil => intro _; rfl
          | cons j l ih =>
            intro hj
            have : j < (M.set k f).length := by rw [List.length_set]; exact hj j (by simp)
            rw [List.filterMap_cons, List.getElem?_eq_getElem this]
            show _ + 1 = _ + 1
            rw [ih fun x hx => hj x (List.mem_cons_of_mem _ hx)]
        exact this ks fun j hj => hall j (List.mem_cons_of_mem _ hj)
      rcases ih hl2 (by simpa using hc) h with h | ⟨j, hj, ej⟩
      · exact .inl (List.mem_cons_of_mem _ h)
      · by_cases z : k = j
        · subst z
          rw [List.getElem?_set_self hlt] at ej
          cases ej
          exact .inl (by simp)
        · rw [List.getElem?_set_ne z] at ej
          exact .inr ⟨j, by simp [hj, Ne.symm z], ej⟩
section
variable {K : PySem.W.Frag} {S0 : Mark} {M M' : Mem} {H H' : Hp} {ks : List Nat}
/-- the callee's mark -/
def mk0 (S0 : Mark) (ks : List Nat) (M : Mem) : Mark := fun a => SM S0 M a ∧ a ∉ keys (sel ks M)
theorem sub_keys : ∀ a, a ∈ keys (sel ks M) → a ∈ keys M := fun a h => by
  obtain ⟨e, he, rfl⟩ := List.mem_map.mp h
  obtain ⟨k, _, ek⟩ := mem_sel.mp he
  exact List.mem_map.mpr ⟨e, List.mem_of_getElem? ek, rfl⟩
theorem mk0_sm : SM (mk0 S0 ks M) (sel ks M) = SM S0 M := by
  funext a
  refine propext ⟨fun h => ?_, fun h => ?_⟩
  · rcases h with h | h
    · exact h.1
    · exact .inr (sub_keys a h)
  · by_cases z : a ∈ keys (sel ks M)
    · exact .inr z
    · exact .inl ⟨h, z⟩
theorem MemOk.sel (m : MemOk K S0 M H) (hk : ks.Nodup) : MemOk K (mk0 S0 ks M) (OD.sel ks M) H :=
  ⟨nodup_sel hk m.nd, fun e he => by
    rw [mk0_sm]
    obtain ⟨k, _, ek⟩ := mem_sel.mp he
    exact m.at_ e (List.mem_of_getElem? ek), fun a h => m.tracked a h.1, fun a h z => z.2 h⟩
theorem put_back (m : MemOk K S0 M H) (hk : ks.Nodup) (hl : (OD.sel ks M).length = ks.length) (m' : MemOk K (mk0 S0 ks M) M' H') (x : Ext (OD.sel ks M) H M' H') (pr : Pre (OD.sel ks M) M') :
    MemOk K S0 (putM ks M M') H' ∧ Ext M H (putM ks M M') H' ∧ SM S0 (putM ks M M') = SM (mk0 S0 ks M) M' := by
  unfold Pre at pr
  rw [hl] at pr
  have hc : ks.length ≤ M'.length := by
    have := congrArg List.length pr
    unfold keys at this
    rw [List.length_map, List.length_map, List.length_take, hl] at this
    omega
  have kp := keys_put hk hl pr
  have kM' : keys M' = keys (OD.sel ks M) ++ keys (M'.drop ks.length) := by
    rw [← pr, ← keys_append, List.take_append_drop]
  have nd' := m'.nd
  rw [kM'] at nd'
  have hnew : ∀ a ∈ keys (M'.drop ks.length), H a = none := fun a ha => by
    rcases x.new a (by rw [kM']; exact List.mem_append_right _ ha) with h | h
    · exact absurd rfl ((List.nodup_append.mp nd').2.2 a h a ha)
    · exact h
  have sm : SM S0 (putM ks M M') = SM (mk0 S0 ks M) M' := by
    funext a
    refine propext ⟨fun h => ?_, fun h => ?_⟩
    · by_cases z : a ∈ keys (OD.sel ks M)
      · exact .inr (by rw [kM']; exact List.mem_append_left _ z)
      · rcases h with h | h
        · exact .inl ⟨.inl h, z⟩
        · rw [kp] at h
          rcases List.mem_append.mp h with h | h
          · exact .inl ⟨.inr h, z⟩
          · exact .inr (by rw [kM']; exact List.mem_append_right _ h)
    · rcases h with h | h
      · rcases h.1 with h | h
        · exact .inl h
        · exact .inr (by rw [kp]; exact List.mem_append_left _ h)
      · rw [kM'] at h
        rcases List.mem_append.mp h with h | h
        · exact .inr (by rw [kp]; exact List.mem_append_left _ (sub_keys a h))
        · exact .inr (by rw [kp]; exact List.mem_append_right _ h)
  have ext : Ext M H (putM ks M M') H' := ⟨fun b o e n => x.keep b o e fun z => n (sub_keys b z), fun b hb => by
    rw [kp] at hb
    rcases List.mem_append.mp hb with h | h
    · exact .inl h
    · exact .inr (hnew b h), x.trk⟩
  refine ⟨⟨?_, fun e he => ?_, fun a h => x.trk a (m.trk a h), fun a ha z => ?_⟩, ext, sm⟩
  · rw [kp]
    refine List.nodup_append.mpr ⟨m.nd, (List.nodup_append.mp nd').2.1, fun a ha b hb q => ?_⟩
    subst q
    exact m.tracked a (.inr ha) (hnew a hb)
  · rw [sm]
    rcases mem_put hl hc he with h | ⟨k, hk', ek⟩
    · exact m'.at_ e h
    · rw [← sm]
      have hm := List.mem_of_getElem? ek
      refine (m.at_ e hm).mono ext.kp ?_
      have ne : e.1 ∉ keys (OD.sel ks M) := fun z => by
        obtain ⟨f, hf, ef⟩ := List.mem_map.mp z
        obtain ⟨j, hj, ej⟩ := mem_sel.mp hf
        exact hk' (key_ix m.nd ej ek ef ▸ hj)
      cases q : H e.1 with
      | none => exact absurd q (m.at_ e hm).some
      | some o => exact x.keep e.1 o q ne
  · rw [kp] at ha
    rcases List.mem_append.mp ha with h | h
    · exact m.dis a h z
    · exact m.trk a z (hnew a h)
end

/-! ### a call of an own def -/
def dCall (F : FD) (ks : List Nat) (dr : DA) : DE := fun sl M ED Q => dr sl M ED fun ds M1 => (sel ks M1).length = ks.length ∧ F ds (sel ks M1) (fun c fs Mc => ED c fs (putM ks M1 Mc)) fun d Mc => Q d (putM ks M1 Mc)
section
variable {X : Cx} {E : L2.St → XK} {K : PySem.W.Frag} {a : Expr} {es : List Expr} {pos p : Pos} {dr : DA} {F : FD} {ks : List Nat} {x : Str} {f : Addr} {fd : FuncData} {ps : List Str} {k : Nat} {CXf : CXT}
theorem sim_call {t : TA} (hk : ks.Nodup) (s : SimA K E t dr) : SimE K E (fun σ H Q => t σ H fun vs H1 => spD K F vs H1 Q (E σ)) (dCall F ks dr) := by
  intro S0 sl M σ H Q QD ED k xl hd l
  refine s S0 sl M σ H _ _ ED k xl hd fun ds M1 vs H1 m1 x1 r1 q1 => ?_
  obtain ⟨hl, q⟩ := q1
  refine ⟨mk0 S0 ks M1, ds, sel ks M1, _, _, m1.sel hk, by rw [mk0_sm]; exact r1, q, fun d M' v H' m' x' pr r' q' => ?_, fun cls fs M' dd H' m' x' pr r' q' => ?_⟩
  · obtain ⟨g1, g2, g3⟩ := put_back m1 hk hl m' x' pr
    exact l d _ v H' g1 (x1.trans g2) (by rw [g3]; exact r') q'
  · obtain ⟨g1, g2, g3⟩ := put_back m1 hk hl m' x' pr
    exact xl cls fs _ dd H' g1 (x1.trans g2) (by rw [g3]; exact r') q'
/-- .. of a def that lets nothing out -/
def dCall0 (F : FD) (ks : List Nat) (dr : DA) : DE := fun sl M ED Q => dr sl M ED fun ds M1 => (sel ks M1).length = ks.length ∧ F ds (sel ks M1) (fun _ _ _ => False) fun d Mc => Q d (putM ks M1 Mc)
theorem sim_call0 {t : TA} (hk : ks.Nodup) (s : SimA K E t dr) : SimE K E (tCall (spD K F) [] E0 t) (dCall0 F ks dr) := by
  intro S0 sl M σ H Q QD ED k xl hd l
  refine s S0 sl M σ H _ _ ED k xl hd fun ds M1 vs H1 m1 x1 r1 q1 => ?_
  obtain ⟨hl, q⟩ := q1
  rw [List.append_nil]
  refine ⟨mk0 S0 ks M1, ds, sel ks M1, _, _, m1.sel hk, by rw [mk0_sm]; exact r1, q, fun d M' v H' m' x' pr r' q' => ?_, fun cls fs M' dd H' m' x' pr r' q' => q'.elim⟩
  obtain ⟨g1, g2, g3⟩ := put_back m1 hk hl m' x' pr
  exact l d _ v H' g1 (x1.trans g2) (by rw [g3]; exact r') q'
/-- f(e, ..), f a def that lets nothing out -/
theorem de_call (F' : FnOk X.prog X.w X.K X.mg X.base CX0 k f fd ps (spD X.K F)) (hr : Room k X.A) (hm : X.mg x = some (.ref f)) (hkp : PySem.W.keepIn X.K (.ref f) = true) (hb : Binds X.K fd ps []) (ks : List Nat) (ha : DAx X E (a :: es) dr) (hk : ks.Nodup := by decide) (hg : Gl X x := by rfl)
    (hdb : (x == ("__debug__" : Str)) = false := by decide) (he : starEach (a :: es) X.env = (false, eval a X.env) :: starEach es X.env := by rfl) (hpl : (backTo pos (starEach es X.env)).any (·.1) = false := by rfl) :
    DEx X E (.Call (.Name x p) (a :: es) [] pos) (dCall0 F ks dr) := by
  obtain ⟨t, pa, s⟩ := ha
  exact ⟨_, pe_call F' hr hg hm hkp hb .nil pass0 pa hdb he hpl, sim_call0 hk s⟩
theorem de_call0 (F' : FnOk X.prog X.w X.K X.mg X.base CX0 k f fd ps (spD X.K F)) (hr : Room k X.A) (hm : X.mg x = some (.ref f)) (hkp : PySem.W.keepIn X.K (.ref f) = true) (hb : Binds X.K fd ps []) (ks : List Nat) (hk : ks.Nodup := by decide) (hg : Gl X x := by rfl)
    (hdb : (x == ("__debug__" : Str)) = false := by decide) :
    DEx X E (.Call (.Name x p) [] [] pos) (dCall0 F ks dNil) :=
  ⟨_, pe_call0 F' hr hg hm hkp hb .nil pass0 hdb, sim_call0 hk fun S0 sl M σ H Q QD ED k xl hd l => l _ _ _ _ k.mem (.refl _ _) .nil hd⟩
end
end OD

/-! OD6: statements, loops, comprehensions, methods, defs. -/
namespace OD
open PySem PySem.Spec L2

structure DEnds where
  nx : Slots → Mem → Prop
  rt : DK
  bk : Slots → Mem → Prop := fun _ _ => False
  ct : Slots → Mem → Prop := fun _ _ => False
  ex : Slots → XD := fun _ _ _ _ => False
abbrev DS := DEnds → Slots → Mem → Prop
structure LkS (K : PySem.W.Frag) (S0 : Mark) (M : Mem) (H : Hp) (Dd : DEnds) (Dn : Ends) (E : L2.St → XK) : Prop where
  nx : ∀ sl' M' σ' H', Ok K S0 sl' M' σ' H' → Ext M H M' H' → Dd.nx sl' M' → Dn.nx σ' H'
  rt : Lk K S0 M H Dn.rt Dd.rt
  bk : ∀ sl' M' σ' H', Ok K S0 sl' M' σ' H' → Ext M H M' H' → Dd.bk sl' M' → Dn.bk σ' H'
  ct : ∀ sl' M' σ' H', Ok K S0 sl' M' σ' H' → Ext M H M' H' → Dd.ct sl' M' → Dn.ct σ' H'
  ex : ∀ sl' M' σ' H', Ok K S0 sl' M' σ' H' → Ext M H M' H' → XL K S0 M' H' (E σ') (Dd.ex sl')
section
variable {K : PySem.W.Frag} {S0 : Mark} {M M1 : Mem} {H H1 : Hp} {Dd : DEnds} {Dn : Ends} {E : L2.St → XK} {sl : Slots} {σ : L2.St}
theorem LkS.ext (l : LkS K S0 M H Dd Dn E) (x : Ext M H M1 H1) : LkS K S0 M1 H1 Dd Dn E :=
  ⟨fun a b c d k y => l.nx a b c d k (x.trans y), l.rt.ext x, fun a b c d k y => l.bk a b c d k (x.trans y), fun a b c d k y => l.ct a b c d k (x.trans y), fun a b c d k y => l.ex a b c d k (x.trans y)⟩
theorem LkS.xl (l : LkS K S0 M H Dd Dn E) (k : Ok K S0 sl M σ H) : XL K S0 M H (E σ) (Dd.ex sl) := l.ex sl M σ H k (.refl _ _)
end
def SimS (K : PySem.W.Frag) (E : L2.St → XK) (t : TS) (td : DS) : Prop := ∀ (S0 : Mark) (sl : Slots) (M : Mem) (σ : L2.St) (H : Hp) (Dd : DEnds) (Dn : Ends),
  Ok K S0 sl M σ H → LkS K S0 M H Dd Dn E → td Dd sl M → t Dn σ H
structure DSx (X : Cx) (E : L2.St → XK) (st : Stmt) (td : DS) : Prop where
  ex : ∃ t, PS X st t ∧ SimS X.K E t td
structure DBx (X : Cx) (E : L2.St → XK) (st : List Stmt) (td : DS) : Prop where
  ex : ∃ t, PSs X st t ∧ SimS X.K E t td

section
variable {X : Cx} {E : L2.St → XK} {K : PySem.W.Frag} {a b c : Expr} {es : List Expr} {pos : Pos} {da db dc : DE} {dr : DA} {dt : DT} {st : Stmt} {sts sts2 : List Stmt} {td ud : DS}

/-! ### blocks -/
def dNext : DS := fun Dd sl M => Dd.nx sl M
def dSeq (t u : DS) : DS := fun Dd sl M => t { Dd with nx := u Dd } sl M
theorem db_nil : DBx X E [] dNext := ⟨_, pss_nil, fun S0 sl M σ H Dd Dn k l h => l.nx sl M σ H k (.refl _ _) h⟩
theorem db_one (h : DSx X E st td) : DBx X E [st] td := by
  obtain ⟨t, p, s⟩ := h
  exact ⟨_, pss_one p, s⟩
theorem db_cons (h : DSx X E st td) (h2 : DBx X E sts ud) : DBx X E (st :: sts) (dSeq td ud) := by
  obtain ⟨t, p, s⟩ := h
  obtain ⟨u, q, r⟩ := h2
  refine ⟨_, pss_cons p q, fun S0 sl M σ H Dd Dn k l h => s S0 sl M σ H { Dd with nx := ud Dd } _ k ⟨fun sl' M' σ' H' k' x' h' => ?_, l.rt, l.bk, l.ct, l.ex⟩ h⟩
  exact r S0 sl' M' σ' H' Dd Dn k' (l.ext x') h'
theorem ds_pass : DSx X E (.Pass pos) dNext := ⟨_, ps_pass, fun S0 sl M σ H Dd Dn k l h => l.nx sl M σ H k (.refl _ _) h⟩
theorem ds_doc {x j pos'} : DSx X E (.Expr (.Constant (.str x) j pos) pos') dNext := ⟨_, ps_doc, fun S0 sl M σ H Dd Dn k l h => l.nx sl M σ H k (.refl _ _) h⟩
def dBreak : DS := fun Dd sl M => Dd.bk sl M
def dCont : DS := fun Dd sl M => Dd.ct sl M
theorem ds_break : DSx X E (.Break pos) dBreak := ⟨_, ps_break, fun S0 sl M σ H Dd Dn k l h => l.bk sl M σ H k (.refl _ _) h⟩
theorem ds_cont : DSx X E (.Continue pos) dCont := ⟨_, ps_continue, fun S0 sl M σ H Dd Dn k l h => l.ct sl M σ H k (.refl _ _) h⟩
def dNever : DS := fun _ _ _ => False
theorem ds_never : DSx X E st dNever := ⟨_, ps_never, fun S0 sl M σ H Dd Dn k l h => h.elim⟩
theorem db_never : DBx X E sts dNever := ⟨_, pss_never, fun S0 sl M σ H Dd Dn k l h => h.elim⟩
def dDrop (da : DE) : DS := fun Dd sl M => da sl M (Dd.ex sl) fun _ M1 => Dd.nx sl M1
theorem ds_expr (h : DEx X E a da) (hs : swapsWith a none pos.line X.env = pure false := by rfl) : DSx X E (.Expr a pos) (dDrop da) := by
  obtain ⟨t, p, s⟩ := h
  exact ⟨_, ps_expr p hs, fun S0 sl M σ H Dd Dn k l h => s S0 sl M σ H _ _ _ k (l.xl k) h fun d M' v H' m x r q => l.nx sl M' σ H' (k.ext m x) x q⟩
/-- return: fz: an owned object that is handed back as data -/
def frzD (fz : Bool) (d : D) (M : Mem) (Q : DK) : Prop := match fz with
  | true => match d with
    | .ref p => ∃ (k : Nat) (n : N), M[k]? = some (p, n) ∧ Q n.toD (M.eraseIdx k)
    | d => Q d M
  | false => Q d M
theorem frz_key {M : Mem} {k : Nat} {p : Addr} {n : N} (nd : (keys M).Nodup) (e : M[k]? = some (p, n)) : p ∉ keys (M.eraseIdx k) := fun z => by
  obtain ⟨f, hf, ef⟩ := List.mem_map.mp z
  obtain ⟨j, ej⟩ := List.getElem?_of_mem hf
  rw [List.getElem?_eraseIdx] at ej
  by_cases h : j < k
  · rw [if_pos h] at ej
    have := key_ix nd ej e ef
    omega
  · rw [if_neg h] at ej
    have := key_ix nd ej e ef
    omega
theorem keys_erase {M : Mem} {k : Nat} : ∀ a, a ∈ keys (M.eraseIdx k) → a ∈ keys M := fun a h => by
  obtain ⟨f, hf, ef⟩ := List.mem_map.mp h
  exact List.mem_map.mpr ⟨f, List.mem_of_mem_eraseIdx hf, ef⟩
theorem keys_eraseIdx : ∀ (M : Mem) (k : Nat), keys (M.eraseIdx k) = (keys M).eraseIdx k
  | [], _ => rfl
  | _ :: _, 0 => rfl
  | e :: M, k + 1 => by
    show e.1 :: keys (M.eraseIdx k) = e.1 :: (keys M).eraseIdx k
    rw [keys_eraseIdx M k]
theorem kp_write {S0 : Mark} {M : Mem} {H : Hp} {k : Nat} {p : Addr} {n : N} (e : M[k]? = some (p, n)) (o : HO) : Kp (SM S0 M) H (SM S0 M) (upd H p o) := by
  have := (Ext.write (H := H) (n' := n) (o := o) e).kp (S0 := S0)
  rwa [SM_keys (keys_set e)] at this
/-- the k-th owned object is not owned any more -/
theorem frz_ok {S0 : Mark} {M : Mem} {H : Hp} {k : Nat} {p : Addr} {n : N} (m : MemOk K S0 M H) (e : M[k]? = some (p, n)) :
    MemOk K S0 (M.eraseIdx k) H ∧ Ext M H (M.eraseIdx k) H ∧ Rep K (SM S0 (M.eraseIdx k)) H (.ref p) n.toD := by
  have x : Ext M H (M.eraseIdx k) H := ⟨fun _ _ e _ => e, fun b hb => .inl (keys_erase b hb), fun _ h => h⟩
  have kp : Kp (SM S0 M) H (SM S0 (M.eraseIdx k)) H := x.kp
  have np : ¬ SM S0 (M.eraseIdx k) p := fun z => z.elim (m.dis p (mem_keys_of e)) (frz_key m.nd e)
  refine ⟨⟨?_, fun f hf => (m.at_ f (List.mem_of_mem_eraseIdx hf)).mono kp rfl, m.trk, fun a h => m.dis a (keys_erase a h)⟩, x, ?_⟩
  · rw [keys_eraseIdx]
    exact m.nd.sublist (List.eraseIdx_sublist _ _)
  · have g := m.at_ _ (List.mem_of_getElem? e)
    cases n with
    | lst ds => obtain ⟨vs, h1, h2⟩ := g; exact .lst np h1 (Reps.mono kp _ _ h2)
    | dic ds => obtain ⟨vs, h1, h2⟩ := g; exact .dic np h1 (RepsK.mono kp _ _ h2)
    | ins C dx ds => obtain ⟨vs, h1, h2⟩ := g; exact .obj np h1 (RepsF.mono kp _ _ h2)
theorem frzD_ok {S0 : Mark} {M : Mem} {H : Hp} {fz : Bool} {d : D} {v : V} {QD : DK} {Q : VK} (m : MemOk K S0 M H) (r : Rep K (SM S0 M) H v d) (h : frzD fz d M QD) (l : Lk K S0 M H Q QD) : Q v H := by
  cases fz with
  | false => exact l.now m r h
  | true =>
    cases d with
    | ref p =>
      obtain ⟨k, n, e, q⟩ := h
      obtain ⟨g1, g2, g3⟩ := frz_ok m e
      cases r
      exact l _ _ _ _ g1 g2 g3 q
    | _ => exact l.now m r h
def dRet (fz : Bool) (da : DE) : DS := fun Dd sl M => da sl M (Dd.ex sl) fun d M1 => frzD fz d M1 Dd.rt
theorem ds_ret (fz : Bool) (h : DEx X E a da) : DSx X E (.Return (some a) pos) (dRet fz da) := by
  obtain ⟨t, p, s⟩ := h
  exact ⟨_, ps_ret p, fun S0 sl M σ H Dd Dn k l h => s S0 sl M σ H _ _ _ k (l.xl k) h fun d M' v H' m x r q => frzD_ok m r q (l.rt.ext x)⟩
def dRetN : DS := fun Dd _ M => Dd.rt .non M
theorem ds_retN : DSx X E (.Return none pos) dRetN := ⟨_, ps_retN, fun S0 sl M σ H Dd Dn k l h => l.rt.now k.mem .non h⟩
def dIfS (t : DT) (u w : DS) : DS := fun Dd sl M => t sl M (Dd.ex sl) fun c M1 => if c = true then u Dd sl M1 else w Dd sl M1
theorem ds_if (hc : DTx X E c dt) (h1 : DBx X E sts td) (h2 : DBx X E sts2 ud) : DSx X E (.If c sts sts2 pos) (dIfS dt td ud) := by
  obtain ⟨t, p, s⟩ := hc
  obtain ⟨u, q, r⟩ := h1
  obtain ⟨u2, q2, r2⟩ := h2
  refine ⟨_, ps_if p q q2, fun S0 sl M σ H Dd Dn k l h => s S0 sl M σ H _ _ _ k (l.xl k) h fun c M1 H1 m1 x1 q => ?_⟩
  cases c with
  | true => rw [if_pos rfl] at q ⊢; exact r S0 sl M1 σ H1 Dd Dn (k.ext m1 x1) (l.ext x1) q
  | false => rw [if_neg Bool.false_ne_true] at q ⊢; exact r2 S0 sl M1 σ H1 Dd Dn (k.ext m1 x1) (l.ext x1) q
/-- ahead of a block: what slot i holds is data from here on -/
def dFrz (i : Nat) (td : DS) : DS := fun Dd sl M => ∃ (p : Addr) (k : Nat) (n : N), sl[i]? = some (some (.ref p)) ∧ M[k]? = some (p, n) ∧ td Dd (sl.set i (some n.toD)) (M.eraseIdx k)
theorem db_frz (i : Nat) (h : DBx X E sts td) : DBx X E sts (dFrz i td) := by
  obtain ⟨t, p, s⟩ := h
  refine ⟨t, p, fun S0 sl M σ H Dd Dn k l h => ?_⟩
  obtain ⟨p, j, n, e1, e2, q⟩ := h
  obtain ⟨g1, g2, g3⟩ := frz_ok k.mem e2
  refine s S0 _ _ σ H Dd Dn ⟨by rw [List.length_set, k.len], fun i' d hd => ?_, g1⟩ (l.ext g2) q
  by_cases z : i = i'
  · subst z
    have hl : i < sl.length := (List.getElem?_eq_some_iff.mp e1).1
    rw [List.getElem?_set_self hl] at hd
    cases hd
    obtain ⟨v, h1, h2⟩ := k.sl i _ e1
    cases h2
    exact ⟨_, h1, g3⟩
  · rw [List.getElem?_set_ne z] at hd
    obtain ⟨v, h1, h2⟩ := k.sl i' d hd
    exact ⟨v, h1, h2.ext g2⟩

/-! ### targets -/
abbrev DG := D → Slots → Mem → (Slots → Mem → Prop) → Prop
abbrev DGs := List D → Slots → Mem → (Slots → Mem → Prop) → Prop
def SimG (K : PySem.W.Frag) (t : TG) (td : DG) : Prop := ∀ (S0 : Mark) (sl : Slots) (M : Mem) (σ : L2.St) (H : Hp) (v : V) (d : D) (Q : L2.St → Hp → Prop) (QD : Slots → Mem → Prop),
  Ok K S0 sl M σ H → Rep K (SM S0 M) H v d → td d sl M QD → (∀ sl' M' σ' H', Ok K S0 sl' M' σ' H' → Ext M H M' H' → QD sl' M' → Q σ' H') → t v σ H Q
def SimGs (K : PySem.W.Frag) (t : TGs) (td : DGs) : Prop := ∀ (S0 : Mark) (sl : Slots) (M : Mem) (σ : L2.St) (H : Hp) (v : List V) (d : List D) (Q : L2.St → Hp → Prop) (QD : Slots → Mem → Prop),
  Ok K S0 sl M σ H → Reps K (SM S0 M) H v d → td d sl M QD → (∀ sl' M' σ' H', Ok K S0 sl' M' σ' H' → Ext M H M' H' → QD sl' M' → Q σ' H') → t v σ H Q
structure DGx (X : Cx) (e : Expr) (td : DG) : Prop where
  ex : ∃ t, PG X e t ∧ SimG X.K t td
structure DGsx (X : Cx) (es : List Expr) (td : DGs) : Prop where
  ex : ∃ t, PGs X es t ∧ SimGs X.K t td
def dName (i : Nat) : DG := fun d sl M Q => Q (sl.set i (some d)) M
theorem sim_name {i : Nat} : SimG K (gName i) (dName i) := fun S0 sl M σ H v d Q QD k r h l => l _ _ _ _ (k.set i r) (.refl _ _) h
theorem dg_name {i : Nat} {x : Str} (hN : X.N.Nodup) (hi : X.N[i]? = some x := by rfl) (hx : Loc X.env.scope x := by first | exact .inl rfl | exact .inr rfl) (hf : X.fn x = true ∨ X.env.scope.names.lookup x = some .local := by first | exact .inl rfl | exact .inr rfl) : DGx X (.Name x pos) (dName i) := ⟨_, pg_name hN hi hx hf, sim_name⟩
def dgNil : DGs := fun ds sl M Q => ds = [] ∧ Q sl M
def dgCons (t : DG) (u : DGs) : DGs := fun ds sl M Q => ∃ d r, ds = d :: r ∧ t d sl M fun sl' M' => u r sl' M' Q
theorem dgs_nil : DGsx X [] dgNil := ⟨_, pgs_nil, fun S0 sl M σ H v d Q QD k r h l => by
  obtain ⟨rfl, h⟩ := h
  cases r
  exact ⟨rfl, l _ _ _ _ k (.refl _ _) h⟩⟩
theorem dgs_cons {t : DG} {u : DGs} (h1 : DGx X a t) (h2 : DGsx X es u) (hs : (assignEach (a :: es) X.env).map (·.2) = assign a X.env :: (assignEach es X.env).map (·.2) := by rfl) : DGsx X (a :: es) (dgCons t u) := by
  obtain ⟨t', p, s⟩ := h1
  obtain ⟨u', q, r⟩ := h2
  refine ⟨_, pgs_cons p q hs, fun S0 sl M σ H v d Q QD k rr h l => ?_⟩
  obtain ⟨d, ds, rfl, h⟩ := h
  cases rr with
  | cons r1 r2 =>
    refine ⟨_, _, rfl, s S0 sl M σ H _ d _ _ k r1 h fun sl' M' σ' H' k' x' h' => ?_⟩
    exact r S0 sl' M' σ' H' _ ds Q QD k' (r2.ext x') h' fun sl2 M2 σ2 H2 k2 x2 h2 => l _ _ _ _ k2 (x'.trans x2) h2
def dgTup (n : Nat) (t : DGs) : DG := fun d sl M Q => match d with
  | .tup ds => ds.length = n ∧ t ds sl M Q
  | _ => False
theorem dg_tup {j n : Nat} {t : DGs} (hc : X.calm = true) (h : DGsx X es t) (hn : (assignEach es X.env).length = n := by rfl) (hst : (assignEach es X.env).findIdx? (·.1) = none := by rfl) : DGx X (.Tuple es j pos) (dgTup n t) := by
  obtain ⟨t', p, s⟩ := h
  refine ⟨_, pg_tup hc p hn hst, fun S0 sl M σ H v d Q QD k r h l => ?_⟩
  cases d with
  | tup ds =>
    obtain ⟨h1, h2⟩ := h
    cases r with
    | tup r1 r2 => exact ⟨_, _, rfl, r1.sq, by rw [r2.length]; exact h1, s S0 sl M σ H _ ds Q QD k r2 h2 l⟩
  | _ => exact h.elim
def dAsg (da : DE) (g : DG) : DS := fun Dd sl M => da sl M (Dd.ex sl) fun d M1 => g d sl M1 Dd.nx
theorem sim_asg {te : TE} {g : TG} {dg : DG} (s : SimE K E te da) (r : SimG K g dg) : SimS K E (tAsg te g) (dAsg da dg) := fun S0 sl M σ H Dd Dn k l h => by
  refine s S0 sl M σ H _ _ _ k (l.xl k) h fun d M1 v H1 m1 x1 r1 q1 => ?_
  exact r S0 sl M1 σ H1 v d _ _ (k.ext m1 x1) r1 q1 fun sl' M' σ' H' k' x' h' => l.nx sl' M' σ' H' k' (x1.trans x') h'
theorem ds_asg {tg : Expr} {dg : DG} (h : DEx X E a da) (hg : DGx X tg dg) (hs : swapsWithSole [tg] a pos.line X.env = pure false := by rfl) (hw : swappedStores [tg] a X.env = pure none := by rfl)
    (h1 : (assignEach [tg] X.env).map (·.2) = [assign tg X.env] := by rfl) : DSx X E (.Assign [tg] a pos) (dAsg da dg) := by
  obtain ⟨t, p, s⟩ := h
  obtain ⟨g, q, r⟩ := hg
  exact ⟨_, ps_asg p q hs hw h1, sim_asg s r⟩
theorem ds_set {i : Nat} {x : Str} {pos' : Pos} (hN : X.N.Nodup) (h : DEx X E a da) (hi : X.N[i]? = some x := by rfl) (hx : Loc X.env.scope x := by first | exact .inl rfl | exact .inr rfl) (hs : swapsWith a (some (.Name x pos')) pos.line X.env = pure false := by rfl)
    (hf : X.fn x = true ∨ X.env.scope.names.lookup x = some .local := by first | exact .inl rfl | exact .inr rfl) : DSx X E (.Assign [.Name x pos'] a pos) (dAsg da (dName i)) := by
  obtain ⟨t, p, s⟩ := h
  exact ⟨_, ps_set hN hi hx p hs hf, sim_asg s sim_name⟩
/-- a, b = e1, e2 -/
def dPar (i j : Nat) (dr : DA) : DS := fun Dd sl M => dr sl M (Dd.ex sl) fun ds M1 => ∃ v w, ds = [v, w] ∧ Dd.nx ((sl.set i (some v)).set j (some w)) M1
theorem ds_par {i j : Nat} {x y : Str} {px py pt : Pos} {kt k2 pt2} (hc : X.calm = true) (hN : X.N.Nodup) (h : DAx X E [a, b] dr) (hi : X.N[i]? = some x := by rfl) (hj : X.N[j]? = some y := by rfl) (hij : i ≠ j := by decide)
    (hx : X.env.scope.names.lookup x = some .local := by rfl) (hy : X.env.scope.names.lookup y = some .local := by rfl)
    (hw : swappedStores [.Tuple [.Name x px, .Name y py] kt pt] (.Tuple [a, b] k2 pt2) X.env = pure (some [x, y]) := by rfl)
    (hs : swapsWithSole [.Tuple [.Name x px, .Name y py] kt pt] (.Tuple [a, b] k2 pt2) pos.line X.env = pure false := by rfl) :
    DSx X E (.Assign [.Tuple [.Name x px, .Name y py] kt pt] (.Tuple [a, b] k2 pt2) pos) (dPar i j dr) := by
  obtain ⟨t, p, s⟩ := h
  refine ⟨_, ps_par hc hN hi hj hij hx hy p hw hs, fun S0 sl M σ H Dd Dn k l h => s S0 sl M σ H _ _ _ k (l.xl k) h fun ds M1 vs H1 m1 x1 r1 q1 => ?_⟩
  obtain ⟨v, w, rfl, q⟩ := q1
  cases r1 with
  | cons ra rb =>
    cases rb with
    | cons rb rc =>
      cases rc
      exact ⟨_, _, rfl, l.nx _ M1 _ H1 (((k.ext m1 x1).set i ra).set j rb) x1 q⟩
/-- x op= e -/
def dAug (i : Nat) (rd : D → D → Mem → DK → Prop) (da : DE) : DS := fun Dd sl M => ∃ x, sl[i]? = some (some x) ∧ da sl M (Dd.ex sl) fun y M1 => vw M1 x fun x' => vw M1 y fun y' => rd x' y' M1 fun z M2 => Dd.nx (sl.set i (some z)) M2
theorem ds_aug {i : Nat} {x : Str} {op : Operator} {r : R2} {rd : D → D → Mem → DK → Prop} {pos' : Pos} (hN : X.N.Nodup) (ho : OpR X (inplaceOp op) r) (hr : SimV2 X.K r rd) (h : DEx X E a da) (hi : X.N[i]? = some x := by rfl) (hx : Loc X.env.scope x := by first | exact .inl rfl | exact .inr rfl)
    (hf : X.fn x = true ∨ X.env.scope.names.lookup x = some .local := by first | exact .inl rfl | exact .inr rfl) : DSx X E (.AugAssign (.Name x pos') op a pos) (dAug i rd da) := by
  obtain ⟨t, p, s⟩ := h
  refine ⟨_, ps_aug (ti := r) hN hi hx p ho hf, fun S0 sl M σ H Dd Dn k l h => ?_⟩
  obtain ⟨d, e1, h⟩ := h
  obtain ⟨v, e2, rv⟩ := k.sl i d e1
  refine ⟨v, e2, s S0 sl M σ H _ _ _ k (l.xl k) h fun y M1 w H1 m1 x1 r1 q1 => ?_⟩
  obtain ⟨w1, q2, t1⟩ := vw_of m1 (rv.ext x1) q1
  obtain ⟨w2, q3, t2⟩ := vw_of m1 r1 q2
  refine hr S0 M1 H1 v w w1 w2 _ _ m1 t1 t2 q3 fun z M2 u H2 m2 x2 r2 q4 => ?_
  exact l.nx _ M2 _ H2 ((k.ext m2 (x1.trans x2)).set i r2) (x1.trans x2) q4
def rIAddA : R2 := fun x y H Q => rI0 (fun i j => .int (i + j)) x y H Q ∨ ∃ i j, x = .str i ∧ y = .str j ∧ i.length + j.length ≤ sizeLine ∧ Q (.str (i ++ j)) H
def iaddD : D → D → Mem → DK → Prop
  | .int i, .int j, M, Q => Q (.int (i + j)) M
  | .str x, .str y, M, Q => x.length + y.length ≤ sizeLine ∧ Q (.str (x ++ y)) M
  | _, _, _, _ => False
theorem op_iaddA : OpR X (inplaceOp .Add) rIAddA := iop_add.or iop_add_str
theorem sv_iadd : SimV2 K rIAddA iaddD := by
  intro S0 M H x y dx dy Q QD m rx ry h l
  cases dx with
  | int i =>
    cases dy with
    | int j => cases rx.int_inv; cases ry.int_inv; exact .inl ⟨i, j, rfl, rfl, l.now m (.int _) h⟩
    | _ => exact h.elim
  | str i =>
    cases dy with
    | str j => cases rx.str_inv; cases ry.str_inv; exact .inr ⟨i, j, rfl, rfl, h.1, l.now m (.str _) h.2⟩
    | _ => exact h.elim
  | _ => exact h.elim

/-! ### owned objects changed -/
/-- what the owned object x is, and how it is written -/
def mutN (M : Mem) (x : D) (f : N → (N → Mem) → Prop) : Prop := match x with
  | .ref p => ∃ (k : Nat) (n : N), M[k]? = some (p, n) ∧ f n fun n' => M.set k (p, n')
  | _ => False
/-- x[i] = v -/
def setD (n : N) (i v : D) (wr : N → Mem) (Q : Mem → Prop) : Prop := match n, i with
  | .lst xs, .int k => ∃ j, ixN xs.length k = some j ∧ Q (wr (.lst (xs.set j v)))
  | .dic kvs, .int k => kvs.length < sizeLine ∧ Q (wr (.dic (if kvs.any fun kv => decide (kv.1 = Sum.inl k) then kvs.map fun kv => if kv.1 = Sum.inl k then (kv.1, v) else kv else kvs ++ [(Sum.inl k, v)])))
  | .dic kvs, .str k => kvs.length < sizeLine ∧ Q (wr (.dic (if kvs.any fun kv => decide (kv.1 = Sum.inr k) then kvs.map fun kv => if kv.1 = Sum.inr k then (kv.1, v) else kv else kvs ++ [(Sum.inr k, v)])))
  | _, _ => False
def dSetIx (dv da di : DE) : DS := fun Dd sl M => dv sl M (Dd.ex sl) fun v M1 => da sl M1 (Dd.ex sl) fun x M2 => di sl M2 (Dd.ex sl) fun i M3 => mutN M3 x fun n wr => setD n i v wr fun M' => Dd.nx sl M'
def rSetA : V → V → V → Hp → (Hp → Prop) → Prop := fun o i v H Q => rSetL o i v H Q ∨ ∃ a H', o = .ref a ∧ DPut H a i v H' ∧ Q H'
theorem set_all (hu : X.A.units + 1 < cLine) : PSet X rSetA := by
  intro pins s σ H o i v ov iv u Q I ro ri rv q
  rcases q with q | ⟨a, H', rfl, g, q⟩
  · exact set_list pins s σ H o i v ov iv u Q I ro ri rv q
  · cases ro
    exact d_setItem hu I g ri rv fun s' I' => ⟨H', I', q⟩
def putD (kvs : List (Key × D)) (k : Key) (v : D) : List (Key × D) := if kvs.any fun kv => decide (kv.1 = k) then kvs.map fun kv => if kv.1 = k then (kv.1, v) else kv else kvs ++ [(k, v)]
theorem RepsK.any {S : Mark} {H : Hp} {k : Key} : ∀ {kvs : List (Key × D)} {ws : List (Key × V)}, RepsK K S H ws kvs → (ws.any fun kv => decide (kv.1 = k)) = kvs.any fun kv => decide (kv.1 = k) := by
  intro kvs
  induction kvs with
  | nil => intro ws h; cases h; rfl
  | cons p r ih =>
    intro ws h
    cases h with
    | cons a b => rw [List.any_cons, List.any_cons, ih b]
theorem RepsK.repl {S : Mark} {H : Hp} {k : Key} {v : V} {d : D} (rv : Rep K S H v d) : ∀ {kvs : List (Key × D)} {ws : List (Key × V)}, RepsK K S H ws kvs → RepsK K S H (ws.map fun kv => if kv.1 = k then (kv.1, v) else kv) (kvs.map fun kv => if kv.1 = k then (kv.1, d) else kv) := by
  intro kvs
  induction kvs with
  | nil => intro ws h; cases h; exact .nil
  | cons p r ih =>
    intro ws h
    cases h with
    | cons a b =>
      rename_i k' v' ws' d'
      rw [List.map_cons, List.map_cons]
      by_cases z : k' = k
      · rw [if_pos z, if_pos z]; exact .cons rv (ih b)
      · rw [if_neg z, if_neg z]; exact .cons a (ih b)
theorem RepsK.snoc {S : Mark} {H : Hp} {k : Key} {v : V} {d : D} (rv : Rep K S H v d) : ∀ {kvs : List (Key × D)} {ws : List (Key × V)}, RepsK K S H ws kvs → RepsK K S H (ws ++ [(k, v)]) (kvs ++ [(k, d)]) := by
  intro kvs
  induction kvs with
  | nil => intro ws h; cases h; exact .cons rv .nil
  | cons p r ih =>
    intro ws h
    cases h with
    | cons a b => exact .cons a (ih b)
theorem RepsK.put {S : Mark} {H : Hp} {k : Key} {v : V} {d : D} (rv : Rep K S H v d) {kvs : List (Key × D)} {ws : List (Key × V)} (h : RepsK K S H ws kvs) : RepsK K S H (putK ws k v) (putD kvs k d) := by
  unfold putK putD
  rw [h.any]
  split
  · exact h.repl rv
  · exact h.snoc rv
theorem ds_setIx {o i : Expr} {pos' : Pos} {dv di : DE} (hu : X.A.units + 64 < cLine) (hv : DEx X E a dv) (ho : DEx X E o da) (hi : DEx X E i di) (hs : swapsWithSole [.Subscript o i pos'] a pos.line X.env = pure false := by rfl) (hw : swappedStores [.Subscript o i pos'] a X.env = pure none := by rfl)
    (ha : ∀ v, assign (.Subscript o i pos') X.env v = (do
      let ov ← holding [v] (eval o X.env)
      let iv ← holding [v, ov] (eval i X.env)
      standAt pos'
      holding [v, ov, iv] (setItem ov iv v)
      release [v, ov, iv] []) := by intro _; rfl) (h1 : (assignEach [.Subscript o i pos'] X.env).map (·.2) = [assign (.Subscript o i pos') X.env] := by rfl) :
    DSx X E (.Assign [.Subscript o i pos'] a pos) (dSetIx dv da di) := by
  obtain ⟨tv, p1, s1⟩ := hv
  obtain ⟨to, p2, s2⟩ := ho
  obtain ⟨ti, p3, s3⟩ := hi
  refine ⟨_, ps_asg p1 (pg_sub p2 p3 (set_all (by omega)) ha) hs hw h1, fun S0 sl M σ H Dd Dn k l h => ?_⟩
  refine s1 S0 sl M σ H _ _ _ k (l.xl k) h fun v M1 v' H1 m1 x1 r1 q1 => ?_
  have k1 := k.ext m1 x1
  refine s2 S0 sl M1 σ H1 _ _ _ k1 ((l.ext x1).xl k1) q1 fun x M2 x' H2 m2 x2 r2 q2 => ?_
  have x12 := x1.trans x2
  have k2 := k.ext m2 x12
  refine s3 S0 sl M2 σ H2 _ _ _ k2 ((l.ext x12).xl k2) q2 fun i M3 i' H3 m3 x3 r3 q3 => ?_
  have x13 := x12.trans x3
  have rv := r1.ext (x2.trans x3)
  have rx := r2.ext x3
  cases x with
  | ref p =>
    cases rx
    obtain ⟨j, n, e, q⟩ := q3
    have g := m3.at_ _ (List.mem_of_getElem? e)
    have fin : ∀ (n' : N) (ob : HO), NodeAt X.K (SM S0 M3) (upd H3 p ob) p n' → Dd.nx sl (M3.set j (p, n')) → Dn.nx σ (upd H3 p ob) := fun n' ob g' q' =>
      l.nx sl _ σ _ (k.ext (m3.write e g') (x13.trans (.write e))) (x13.trans (.write e)) q'
    cases n with
    | lst xs =>
      cases i with
      | int z =>
        cases r3
        obtain ⟨vs, h1, h2⟩ := g
        obtain ⟨t, e2, q⟩ := q
        refine .inl ⟨p, vs, z, t, rfl, rfl, h1, by rw [h2.length]; exact e2, fin (.lst (xs.set t v)) _ ⟨_, upd_same, Reps.mono (kp_write e _) _ _ (h2.set t rv)⟩ q⟩
      | _ => exact q.elim
    | dic kvs =>
      obtain ⟨ws, h1, h2⟩ := g
      cases i with
      | int z =>
        cases r3
        refine .inr ⟨p, _, rfl, DPut.k (k := Sum.inl z) h1 (by rw [h2.length]; exact q.1), fin (.dic (putD kvs (Sum.inl z) v)) _ ⟨_, upd_same, RepsK.mono (kp_write e _) _ _ (h2.put (k := Sum.inl z) rv)⟩ q.2⟩
      | str z =>
        cases r3
        refine .inr ⟨p, _, rfl, DPut.k (k := Sum.inr z) h1 (by rw [h2.length]; exact q.1), fin (.dic (putD kvs (Sum.inr z) v)) _ ⟨_, upd_same, RepsK.mono (kp_write e _) _ _ (h2.put (k := Sum.inr z) rv)⟩ q.2⟩
      | _ => exact q.elim
    | _ => exact q.elim
  | _ => exact q3.elim
end
end OD

/-! OD7: methods of lists, loops, comprehensions, defs. -/
namespace OD
open PySem PySem.Spec L2

section
variable {X : Cx} {E : L2.St → XK} {K : PySem.W.Frag} {a b c : Expr} {es : List Expr} {pos : Pos} {da db dc : DE} {dr : DA} {dt : DT} {sts : List Stmt} {td ud : DS}

/-! ### methods of lists -/
/-- r: the method's rule by values; f: what it does to the items -/
def SimM (K : PySem.W.Frag) (r : V → List V → Hp → VK → Prop) (f : List D → List D → (List D → Mem) → DK → Prop) : Prop := ∀ (S0 : Mark) (M : Mem) (H : Hp) (p : Addr) (vs : List V) (ds : List D) (j : Nat) (xs : List D) (Q : VK) (QD : DK),
  MemOk K S0 M H → RepTs K (SM S0 M) H vs ds → M[j]? = some (p, .lst xs) → f xs ds (fun ys => M.set j (p, .lst ys)) QD → Lk K S0 M H Q QD → r (.ref p) vs H Q
def isLst (M : Mem) (x : D) : Prop := match x with
  | .ref p => ∃ (k : Nat) (xs : List D), M[k]? = some (p, .lst xs)
  | _ => False
def mutL (M : Mem) (x : D) (f : List D → (List D → Mem) → Prop) : Prop := match x with
  | .ref p => ∃ (k : Nat) (xs : List D), M[k]? = some (p, .lst xs) ∧ f xs fun ys => M.set k (p, .lst ys)
  | _ => False
def dMth (f : List D → List D → (List D → Mem) → DK → Prop) (da : DE) (dr : DA) : DE := fun sl M ED Q => da sl M ED fun x M1 => isLst M1 x ∧ dr sl M1 ED fun ds M2 => mutL M2 x fun xs wr => vws M2 ds fun ws => f xs ws wr Q
theorem de_mth {name : Str} {id : String} {r : V → List V → Hp → VK → Prop} {f : List D → List D → (List D → Mem) → DK → Prop} {e o : Expr} {apos cpos : Pos} (slot : PySem.Slot "list" name id) (hty : typeOf (.builtin id) = pure (.type "method_descriptor")) (hm : MtR X id r) (hs : SimM X.K r f)
    (ho : DEx X E o da) (ha : DAx X E (e :: es) dr)
    (hbase : attributeBase o name X.env (eval o X.env) = eval o X.env := by rfl)
    (hfew : ((backTo cpos (starEach (e :: es) X.env)).all (fun x => !x.1) && (backToKw cpos (keywordEach [] X.env)).all (fun x => x.1.isSome)
      && decide ((e :: es).length + ([] : List Keyword).length + (if ([] : List Keyword).isEmpty then 0 else 1) < 30)) = true := by rfl)
    (hline : (apos.endLine == cpos.line) = true := by rfl) (hst : starEach (e :: es) X.env = (false, eval e X.env) :: starEach es X.env := by rfl) (hplain : (backTo cpos (starEach es X.env)).any (·.1) = false := by rfl) :
    DEx X E (.Call (.Attribute o name apos) (e :: es) [] cpos) (dMth f da dr) := by
  obtain ⟨to, p1, s1⟩ := ho
  obtain ⟨ta, p2, s2⟩ := ha
  refine ⟨_, pe_bm PySem.F.plainAttrs_list slot hty hm p1 p2 hbase hfew hline hst hplain, fun S0 sl M σ H Q QD ED k xl hd l => ?_⟩
  refine s1 S0 sl M σ H _ _ ED k xl hd fun x M1 v H1 m1 x1 r1 q1 => ?_
  obtain ⟨h1, q1⟩ := q1
  cases x with
  | ref p =>
    cases r1
    obtain ⟨j, xs, ej⟩ := h1
    obtain ⟨vs, g1, g2⟩ := m1.at_ _ (List.mem_of_getElem? ej)
    refine ⟨.inl ⟨rfl, vs, .inl (.inl g1)⟩, s2 S0 sl M1 σ H1 _ _ ED (k.ext m1 x1) (xl.ext x1) q1 fun ds M2 us H2 m2 x2 r2 q2 => ?_⟩
    obtain ⟨j2, ys, e2, q3⟩ := q2
    obtain ⟨ws, q4, r4⟩ := vws_of m2 r2 q3
    exact hs S0 M2 H2 p us ws j2 ys Q QD m2 r4 e2 q4 (l.ext (x1.trans x2))
  | _ => exact h1.elim
theorem de_mth0 {name : Str} {id : String} {r : V → List V → Hp → VK → Prop} {f : List D → List D → (List D → Mem) → DK → Prop} {o : Expr} {apos cpos : Pos} (slot : PySem.Slot "list" name id) (hty : typeOf (.builtin id) = pure (.type "method_descriptor")) (hm : MtR X id r) (hs : SimM X.K r f)
    (ho : DEx X E o da) (hbase : attributeBase o name X.env (eval o X.env) = eval o X.env := by rfl) (hline : (apos.endLine == cpos.line) = true := by rfl) :
    DEx X E (.Call (.Attribute o name apos) [] [] cpos) (dMth f da dNil) := by
  obtain ⟨to, p1, s1⟩ := ho
  refine ⟨_, pe_bm0 PySem.F.plainAttrs_list slot hty hm p1 hbase hline, fun S0 sl M σ H Q QD ED k xl hd l => ?_⟩
  refine s1 S0 sl M σ H _ _ ED k xl hd fun x M1 v H1 m1 x1 r1 q1 => ?_
  obtain ⟨h1, q1⟩ := q1
  cases x with
  | ref p =>
    cases r1
    obtain ⟨j, xs, ej⟩ := h1
    obtain ⟨vs, g1, g2⟩ := m1.at_ _ (List.mem_of_getElem? ej)
    obtain ⟨j2, ys, e2, q3⟩ := q1
    exact ⟨.inl ⟨rfl, vs, .inl (.inl g1)⟩, hs S0 M1 H1 p [] [] j2 ys Q QD m1 .nil e2 q3 (l.ext x1)⟩
  | _ => exact h1.elim
section
variable {S0 : Mark} {M : Mem} {H : Hp} {Q : VK} {QD : DK}
/-- an owned list is written -/
theorem wr_lst {j : Nat} {p : Addr} {xs ys : List D} {ws : List V} {d : D} {v : V} (m : MemOk K S0 M H) (e : M[j]? = some (p, .lst xs)) (r : Reps K (SM S0 M) H ws ys) (rv : Rep K (SM S0 M) H v d) (h : QD d (M.set j (p, .lst ys))) (l : Lk K S0 M H Q QD) : Q v (upd H p (.lst ws)) := by
  have x : Ext M H (M.set j (p, .lst ys)) (upd H p (.lst ws)) := .write e
  exact l d _ v _ (m.write (n' := .lst ys) e ⟨ws, upd_same, Reps.mono (kp_write e _) _ _ r⟩) x (rv.ext x) h
end
theorem RepT.rep_ne {S : Mark} {H : Hp} {v : V} {d : D} (r : RepT K S H v d) (h : match d with | .lst _ => False | .dic _ => False | .obj _ _ => False | _ => True) : Rep K S H v d := by
  cases r with
  | imm r => exact r
  | lst _ _ => exact h.elim
  | dic _ _ => exact h.elim
  | obj _ _ => exact h.elim
/-! append takes its item unlooked-at -/
def dApp (da db : DE) : DE := fun sl M ED Q => da sl M ED fun x M1 => isLst M1 x ∧ db sl M1 ED fun d M2 => mutL M2 x fun xs wr => xs.length < sizeLine ∧ Q .non (wr (xs ++ [d]))
theorem de_app {e o : Expr} {apos cpos : Pos} (ho : DEx X E o da) (ha : DEx X E e db)
    (hbase : attributeBase o "append" X.env (eval o X.env) = eval o X.env := by rfl)
    (hfew : ((backTo cpos (starEach (e :: []) X.env)).all (fun x => !x.1) && (backToKw cpos (keywordEach [] X.env)).all (fun x => x.1.isSome)
      && decide ((e :: []).length + ([] : List Keyword).length + (if ([] : List Keyword).isEmpty then 0 else 1) < 30)) = true := by rfl)
    (hline : (apos.endLine == cpos.line) = true := by rfl) (hst : starEach (e :: []) X.env = (false, eval e X.env) :: starEach [] X.env := by rfl) (hplain : (backTo cpos (starEach [] X.env)).any (·.1) = false := by rfl) :
    DEx X E (.Call (.Attribute o "append" apos) [e] [] cpos) (dApp da db) := by
  obtain ⟨to, p1, s1⟩ := ho
  obtain ⟨ta, p2, s2⟩ := ha
  refine ⟨_, pe_bm PySem.F.plainAttrs_list PySem.F.slot_list_append PySem.F.type_list_append mt_append p1 (pa_cons p2 pa_nil hst) hbase hfew hline hst hplain, fun S0 sl M σ H Q QD ED k xl hd l => ?_⟩
  refine s1 S0 sl M σ H _ _ ED k xl hd fun x M1 v H1 m1 x1 r1 q1 => ?_
  obtain ⟨h1, q1⟩ := q1
  cases x with
  | ref p =>
    cases r1
    obtain ⟨j, xs, ej⟩ := h1
    obtain ⟨vs, g1, g2⟩ := m1.at_ _ (List.mem_of_getElem? ej)
    refine ⟨.inl ⟨rfl, vs, .inl (.inl g1)⟩, s2 S0 sl M1 σ H1 _ _ ED (k.ext m1 x1) (xl.ext x1) q1 fun d M2 u H2 m2 x2 r2 q2 => ?_⟩
    obtain ⟨j2, ys, e2, q3, q4⟩ := q2
    obtain ⟨ws, g3, g4⟩ := m2.at_ _ (List.mem_of_getElem? e2)
    exact ⟨p, ws, u, rfl, rfl, g3, by rw [g4.length]; exact q3, wr_lst m2 e2 (g4.append (.one r2)) .non q4 (l.ext (x1.trans x2))⟩
  | _ => exact h1.elim
def popF : List D → List D → (List D → Mem) → DK → Prop := fun xs ds wr Q => match ds with
  | [] => ∃ d, xs[xs.length - 1]? = some d ∧ Q d (wr xs.dropLast)
  | _ => False
theorem sm_pop : SimM K rPop popF := by
  intro S0 M H p vs ds j xs Q QD m rs e h l
  cases rs with
  | nil =>
    obtain ⟨d, e1, q⟩ := h
    obtain ⟨ws, g1, g2⟩ := m.at_ _ (List.mem_of_getElem? e)
    obtain ⟨v, e2, rv⟩ := g2.get e1
    exact ⟨p, ws, v, rfl, rfl, g1, by rw [g2.length]; exact e2, wr_lst m e g2.dropLast rv q l⟩
  | cons _ _ => exact h.elim
def popAtF : List D → List D → (List D → Mem) → DK → Prop := fun xs ds wr Q => match ds with
  | [.int i] => -(2 ^ 63) ≤ i ∧ i < 2 ^ 63 ∧ ∃ k d, seqIndex? i xs.length = some k ∧ xs[k]? = some d ∧ Q d (wr (xs.eraseIdx k))
  | _ => False
theorem sm_popAt : SimM K rPopAt popAtF := by
  intro S0 M H p vs ds j xs Q QD m rs e h l
  cases rs with
  | nil => exact h.elim
  | cons r rs =>
    rename_i v vs d ds
    cases d with
    | int i =>
      cases rs with
      | nil =>
        cases r.int_inv
        obtain ⟨h1, h2, t, d, e1, e3, q⟩ := h
        obtain ⟨ws, g1, g2⟩ := m.at_ _ (List.mem_of_getElem? e)
        obtain ⟨v, e2, rv⟩ := g2.get e3
        exact ⟨p, ws, i, t, v, rfl, rfl, g1, h1, h2, by rw [g2.length]; exact e1, e2, wr_lst m e (g2.eraseIdx t) rv q l⟩
      | cons _ _ => exact h.elim
    | _ => exact h.elim

/-! ### what a loop walks -/
structure Itm where
  n : Nat
  at_ : Nat → D
  gd : Mem → Prop
abbrev DI := Slots → Mem → XD → (Itm → Mem → Prop) → Prop
/-- a mark that has new addresses alone besides -/
def Mk (S0 : Mark) (H : Hp) (S1 : Mark) : Prop := (∀ a, S0 a → S1 a) ∧ ∀ a, S1 a → S0 a ∨ H a = none
theorem Mk.refl (S0 : Mark) (H : Hp) : Mk S0 H S0 := ⟨fun _ h => h, fun _ h => .inl h⟩
theorem Ext.kpM {S0 S1 : Mark} {M M' : Mem} {H H' : Hp} (x : Ext M H M' H') (k : Mk S0 H S1) : Kp (SM S0 M) H (SM S1 M') H' := fun b o e n => by
  refine ⟨x.keep b o e fun h => n (.inr h), fun h => ?_⟩
  rcases h with h | h
  · rcases k.2 b h with h | h
    · exact n (.inl h)
    · rw [e] at h; cases h
  · rcases x.new b h with h | h
    · exact n (.inr h)
    · rw [e] at h; cases h
def ItRep (K : PySem.W.Frag) (S0 : Mark) (M : Mem) (H : Hp) (J : It) (it : Itm) : Prop := ∀ (S1 : Mark) (M' : Mem) (H' : Hp), Mk S0 H S1 → MemOk K S1 M' H' → Ext M H M' H' → it.gd M' →
  (∀ i, i < it.n → J.go i H' ∧ ∀ x H'', J.yld i H' x H'' → MemOk K S1 M' H'' ∧ Ext M' H' M' H'' ∧ Rep K (SM S1 M') H'' x (it.at_ i)) ∧ J.stop it.n H'
def SimI (K : PySem.W.Frag) (E : L2.St → XK) (wi : TI) (di : DI) : Prop := ∀ (S0 : Mark) (sl : Slots) (M : Mem) (σ : L2.St) (H : Hp) (R : It → Hp → Prop) (RD : Itm → Mem → Prop) (ED : XD),
  Ok K S0 sl M σ H → XL K S0 M H (E σ) ED → di sl M ED RD → (∀ it M' J H', MemOk K S0 M' H' → Ext M H M' H' → ItRep K S0 M' H' J it → RD it M' → R J H') → wi σ H R
structure DIx (X : Cx) (E : L2.St → XK) (tg iter : Expr) (di : DI) : Prop where
  ex : ∃ wi, PI X tg iter wi ∧ SimI X.K E wi di
def itSeq (xs : List D) (gd : Mem → Prop) : Itm := ⟨xs.length, fun i => (xs[i]?).getD .non, gd⟩
def itRange (lo c : Int) (n : Nat) : Itm := ⟨n, fun i => .int (lo + (i : Nat) * c), fun _ => True⟩
def itStr (z : Str) : Itm := ⟨z.cps.size, fun i => .str ⟨#[(z.cps[i]?).getD 0]⟩, fun _ => True⟩

/-- what is looked at, and while what it stands -/
def vwG (M : Mem) (d : D) (P : D → (Mem → Prop) → Prop) : Prop := match d with
  | .ref p => ∃ (k : Nat) (n : N), M[k]? = some (p, n) ∧ P n.toD fun M' => M'[k]? = some (p, n)
  | d => P d fun _ => True
def seqI (w : D) (gd : Mem → Prop) (M : Mem) (RD : Itm → Mem → Prop) : Prop := match w with
  | .lst xs => RD (itSeq xs gd) M
  | .tup xs => RD (itSeq xs gd) M
  | .scr ns => RD (itSeq (ns.map .int) gd) M
  | .str z => RD (itStr z) M
  | _ => False
def diSeq (da : DE) : DI := fun sl M ED RD => da sl M ED fun x M1 => vwG M1 x fun w gd => seqI w gd M1 RD
def iVal (K : PySem.W.Frag) (x : V) (H : Hp) (R : It → Hp → Prop) : Prop := (∃ a xs, x = .ref a ∧ SqL K H a xs ∧ R (Itl K a) H) ∨ (∃ a xs, x = .ref a ∧ SqT K H a xs ∧ R (Itt K a) H) ∨ ∃ z, x = .str z ∧ R (Its z) H
def iAny (K : PySem.W.Frag) (te : TE) : TI := fun σ H R => te σ H fun x H1 => iVal K x H1 R
theorem pi_val {tg : Expr} {pins : List (Addr × Obj)} {σ : L2.St} {H : Hp} {s : Shared} {x : V} {v : Value} {R : It → Hp → Prop} (I : Inv X pins σ H s) (r : RelV x v) (q : iVal X.K x H R) : wpAny (model X.prog X.w) X.A (pyIter v) (PIE X pins σ tg R) X.xe s := by
  rcases q with ⟨a, xs, rfl, hq, q⟩ | ⟨a, xs, rfl, hq, q⟩ | ⟨z, rfl, q⟩
  · cases r
    obtain ⟨its, rv, p, hz⟩ := I.list hq
    exact wpAny_pyIter_list p.isList (pi_one (tk := s.toks) I _ (turn_list a _) ⟨_, Heap.get?_push_size _ rfl, rfl, rfl⟩ q)
  · cases r
    obtain ⟨its, rv, p, hz⟩ := I.tuple hq
    exact wpAny_pyIter_tuple (show s.heap.IsTuple a its.toArray from p) (pi_one (tk := s.toks) I _ (turn_tuple a _) ⟨_, Heap.get?_push_size _ rfl, rfl, rfl⟩ q)
  · obtain ⟨t, rfl⟩ := r
    cases h : z.cps.all (· < 128) with
    | true => exact wpAny_pyIter_ascii h (pi_one (tk := s.toks) I _ (turn_str _ z t "str_ascii_iterator" (.inl rfl)) ⟨_, Heap.get?_push_size _ rfl, rfl, rfl⟩ q)
    | false => exact wpAny_pyIter_wide h (pi_one (tk := s.toks) I _ (turn_str _ z t "str_iterator" (.inr rfl)) ⟨_, Heap.get?_push_size _ rfl, rfl, rfl⟩ q)
theorem pi_any {tg e : Expr} {te : TE} (he : PE X e te) : PI X tg e (iAny X.K te) :=
  ⟨fun pins s σ H R I h => thn (he.run pins s σ H _ I h) fun _ s1 ⟨_, _, I1, r1, q⟩ => pi_val I1 r1 q⟩
theorem itRep_list {S0 : Mark} {M : Mem} {H : Hp} {a : Addr} {xs : List D} {gd : Mem → Prop} (hg : ∀ (S1 : Mark) (M' : Mem) (H' : Hp), Mk S0 H S1 → MemOk K S1 M' H' → Ext M H M' H' → gd M' → ∃ vs, SqL K H' a vs ∧ Reps K (SM S1 M') H' vs xs) : ItRep K S0 M H (Itl K a) (itSeq xs gd) := by
  intro S1 M' H' mk m x g
  obtain ⟨vs, h1, h2⟩ := hg S1 M' H' mk m x g
  refine ⟨fun i hi => ?_, vs, h1, by rw [h2.length]; exact Nat.le_refl _⟩
  have hi' : i < xs.length := hi
  obtain ⟨v, e, r⟩ := h2.get (List.getElem?_eq_getElem hi')
  refine ⟨⟨vs, v, h1, e⟩, fun y H'' hy => ?_⟩
  obtain ⟨rfl, f⟩ := hy
  refine ⟨m, .refl _ _, ?_⟩
  have := f vs h1
  rw [e] at this
  cases this
  show Rep K _ _ _ ((xs[i]?).getD .non)
  rw [List.getElem?_eq_getElem hi']
  exact r
theorem itRep_tup {S0 : Mark} {M : Mem} {H : Hp} {a : Addr} {xs : List D} {gd : Mem → Prop} (hg : ∀ (S1 : Mark) (M' : Mem) (H' : Hp), Mk S0 H S1 → MemOk K S1 M' H' → Ext M H M' H' → gd M' → ∃ vs, SqT K H' a vs ∧ Reps K (SM S1 M') H' vs xs) : ItRep K S0 M H (Itt K a) (itSeq xs gd) := by
  intro S1 M' H' mk m x g
  obtain ⟨vs, h1, h2⟩ := hg S1 M' H' mk m x g
  refine ⟨fun i hi => ?_, vs, h1, by rw [h2.length]; exact Nat.le_refl _⟩
  have hi' : i < xs.length := hi
  obtain ⟨v, e, r⟩ := h2.get (List.getElem?_eq_getElem hi')
  refine ⟨⟨vs, v, h1, e⟩, fun y H'' hy => ?_⟩
  obtain ⟨rfl, f⟩ := hy
  refine ⟨m, .refl _ _, ?_⟩
  have := f vs h1
  rw [e] at this
  cases this
  show Rep K _ _ _ ((xs[i]?).getD .non)
  rw [List.getElem?_eq_getElem hi']
  exact r
theorem di_seq {tg : Expr} (h : DEx X E a da) : DIx X E tg a (diSeq da) := by
  obtain ⟨t, p, s⟩ := h
  refine ⟨_, pi_any p, fun S0 sl M σ H R RD ED k xl hd l => s S0 sl M σ H _ _ ED k xl hd fun d M1 v H1 m1 x1 r1 q1 => ?_⟩
  have imm : ∀ w, Rep X.K (SM S0 M1) H1 v w → seqI w (fun _ => True) M1 RD → iVal X.K v H1 R := fun w r q => by
    cases w with
    | lst xs =>
      cases r with
      | lst h1 h2 h3 =>
        exact .inl ⟨_, _, rfl, .inl (.inl h2), l _ M1 _ H1 m1 x1 (itRep_list fun S1 M' H' mk m x g => ⟨_, .inl (.inl (x.keep _ _ h2 fun z => h1 (.inr z))), Reps.mono (x.kpM mk) _ _ h3⟩) q⟩
    | scr ns =>
      cases r with
      | scr h1 =>
        exact .inl ⟨_, _, rfl, h1.sq, l _ M1 _ H1 m1 x1 (itRep_list fun S1 M' H' mk m x g => ⟨_, (h1.mono (x.kpM mk)).sq, .ints _⟩) q⟩
    | tup xs =>
      cases r with
      | tup h1 h3 =>
        exact .inr (.inl ⟨_, _, rfl, h1.sq, l _ M1 _ H1 m1 x1 (itRep_tup fun S1 M' H' mk m x g => ⟨_, (h1.mono (x.kpM mk)).sq, Reps.mono (x.kpM mk) _ _ h3⟩) q⟩)
    | str z =>
      cases r
      refine .inr (.inr ⟨z, rfl, l (itStr z) M1 _ H1 m1 x1 (fun S1 M' H' mk m x g => ⟨fun i hi => ⟨hi, fun y H'' hy => ?_⟩, Nat.le_refl _⟩) q⟩)
      obtain ⟨rfl, c, e, rfl⟩ := hy
      refine ⟨m, .refl _ _, ?_⟩
      show Rep _ _ _ _ (.str ⟨#[(z.cps[i]?).getD 0]⟩)
      rw [e]
      exact .str _
    | _ => exact q.elim
  cases d with
  | ref p =>
    obtain ⟨j, n, e, q⟩ := q1
    cases r1
    obtain g := m1.at_ _ (List.mem_of_getElem? e)
    cases n with
    | lst xs =>
      obtain ⟨vs, h1, h2⟩ := g
      refine .inl ⟨p, vs, rfl, .inl (.inl h1), l _ M1 _ H1 m1 x1 (itRep_list fun S1 M' H' mk m x gd => ?_) q⟩
      obtain ⟨vs', h1', h2'⟩ := m.at_ _ (List.mem_of_getElem? gd)
      exact ⟨vs', .inl (.inl h1'), h2'⟩
    | _ => exact q.elim
  | _ => exact imm _ r1 q1
end
end OD

/-! OD8: for, while, comprehensions; a def keeps its promise. -/
namespace OD
open PySem PySem.Spec L2

section
variable {X : Cx} {E : L2.St → XK} {K : PySem.W.Frag} {a b c : Expr} {es : List Expr} {pos p : Pos} {da db dc : DE} {dr : DA} {dt : DT} {sts : List Stmt} {td ud : DS} {tg iter : Expr}

/-! ### range -/
def diRange1 (dr : DA) : DI := fun sl M ED RD => dr sl M ED fun ds M1 => ∃ j : Int, ds = [.int j] ∧ -(2 ^ 62) ≤ j ∧ j < 2 ^ 62 ∧ RD (itRange 0 1 j.toNat) M1
def diRange2 (dr : DA) : DI := fun sl M ED RD => dr sl M ED fun ds M1 => ∃ i j : Int, ds = [.int i, .int j] ∧ (-(2 ^ 62) ≤ i ∧ i < 2 ^ 62 ∧ -(2 ^ 62) ≤ j ∧ j < 2 ^ 62) ∧ RD (itRange i 1 (j - i).toNat) M1
def diRange3 (dr : DA) : DI := fun sl M ED RD => dr sl M ED fun ds M1 => ∃ (i j c : Int) (n : Nat), ds = [.int i, .int j, .int c] ∧ RgC i j c n ∧ RD (itRange i c n) M1
theorem itRep_r {S0 : Mark} {M : Mem} {H : Hp} {lo : Int} {n : Nat} : ItRep K S0 M H (Itr lo n) (itRange lo 1 n) := fun S1 M' H' mk m x g => ⟨fun i hi => ⟨hi, fun y H'' hy => by
  obtain ⟨rfl, rfl⟩ := hy
  refine ⟨m, .refl _ _, ?_⟩
  show Rep _ _ _ _ (.int (lo + (i : Nat) * 1))
  rw [Int.mul_one]
  exact .int _⟩, Nat.le_refl _⟩
theorem itRep_c {S0 : Mark} {M : Mem} {H : Hp} {lo c : Int} {n : Nat} : ItRep K S0 M H (Itc lo c n) (itRange lo c n) := fun S1 M' H' mk m x g => ⟨fun i hi => ⟨hi, fun y H'' hy => by
  obtain ⟨rfl, rfl⟩ := hy
  exact ⟨m, .refl _ _, .int _⟩⟩, Nat.le_refl _⟩
theorem di_range1 (hm : X.mg "range" = none) (h : DAx X E [a] dr) (hg : Gl X "range" := by rfl) (hs : starEach [a] X.env = [(false, eval a X.env)] := by rfl) : DIx X E tg (.Call (.Name "range" p) [a] [] pos) (diRange1 dr) := by
  obtain ⟨t, q, s⟩ := h
  refine ⟨_, pi_range1 hg hm q hs, fun S0 sl M σ H R RD ED k xl hd l => s S0 sl M σ H _ _ ED k xl hd fun ds M1 vs H1 m1 x1 r1 q1 => ?_⟩
  obtain ⟨j, rfl, b1, b2, q⟩ := q1
  cases r1 with
  | cons ra rb =>
    cases ra; cases rb
    exact ⟨j, rfl, b1, b2, l _ M1 _ H1 m1 x1 itRep_r q⟩
theorem di_range2 (hm : X.mg "range" = none) (h : DAx X E [a, b] dr) (hg : Gl X "range" := by rfl) (hs : starEach [a, b] X.env = [(false, eval a X.env), (false, eval b X.env)] := by rfl) (hs2 : starEach [b] X.env = [(false, eval b X.env)] := by rfl) : DIx X E tg (.Call (.Name "range" p) [a, b] [] pos) (diRange2 dr) := by
  obtain ⟨t, q, s⟩ := h
  refine ⟨_, pi_range2 hg hm q hs hs2, fun S0 sl M σ H R RD ED k xl hd l => s S0 sl M σ H _ _ ED k xl hd fun ds M1 vs H1 m1 x1 r1 q1 => ?_⟩
  obtain ⟨i, j, rfl, bb, q⟩ := q1
  cases r1 with
  | cons ra rb =>
    cases rb with
    | cons rb rc =>
      cases ra; cases rb; cases rc
      exact ⟨i, j, rfl, bb, l _ M1 _ H1 m1 x1 itRep_r q⟩
theorem di_range3 (hm : X.mg "range" = none) (h : DAx X E [a, b, c] dr) (hg : Gl X "range" := by rfl) (hs : starEach [a, b, c] X.env = (false, eval a X.env) :: starEach [b, c] X.env := by rfl) (hpl : (backTo pos (starEach [b, c] X.env)).any (·.1) = false := by rfl) : DIx X E tg (.Call (.Name "range" p) [a, b, c] [] pos) (diRange3 dr) := by
  obtain ⟨t, q, s⟩ := h
  refine ⟨_, pi_range3 hg hm q hs hpl, fun S0 sl M σ H R RD ED k xl hd l => s S0 sl M σ H _ _ ED k xl hd fun ds M1 vs H1 m1 x1 r1 q1 => ?_⟩
  obtain ⟨i, j, k', n, rfl, bb, q⟩ := q1
  cases r1 with
  | cons ra rb =>
    cases rb with
    | cons rb rc =>
      cases rc with
      | cons rc rd =>
        cases ra; cases rb; cases rc; cases rd
        exact ⟨i, j, k', n, rfl, bb, l _ M1 _ H1 m1 x1 itRep_c q⟩

/-! ### for, while -/
def dFor (di : DI) (dg : DG) (tb : DS) : DS := fun Dd sl M => di sl M (Dd.ex sl) fun it M1 => ∃ W : Nat → Slots → Mem → Prop, W 0 sl M1 ∧ (∀ i sl M, i ≤ it.n → W i sl M → it.gd M) ∧
  (∀ i sl M, i < it.n → W i sl M → dg (it.at_ i) sl M fun sl2 M2 => tb { Dd with nx := W (i + 1), ct := W (i + 1), bk := Dd.nx } sl2 M2) ∧ ∀ sl M, W it.n sl M → Dd.nx sl M
theorem ds_for {di : DI} {dg : DG} (hp : PassesOwn (model X.prog X.w) X.A X.env X.xe) (hc : X.calm = true) (hi : DIx X E tg iter di) (hg : DGx X tg dg) (hb : DBx X E sts td) (hs : ∀ x, foldedSetIterable iter X.env x = pure x := by intro _; rfl) :
    DSx X E (.For tg iter sts [] pos) (dFor di dg td) := by
  obtain ⟨wi, p1, s1⟩ := hi
  obtain ⟨g, p2, s2⟩ := hg
  obtain ⟨t, p3, s3⟩ := hb
  refine ⟨_, ps_for hp hc p1 p2 p3 hs, fun S0 sl M σ H Dd Dn k l h => s1 S0 sl M σ H _ _ _ k (l.xl k) h fun it M1 J H1 m1 x1 ir q => ?_⟩
  obtain ⟨W, w0, wg, wt, we⟩ := q
  refine ⟨fun i m σ' H' => m = it.n - i ∧ i ≤ it.n ∧ ∃ sl' M', Ok X.K S0 sl' M' σ' H' ∧ Ext M1 H1 M' H' ∧ W i sl' M', ⟨it.n, by simp, Nat.zero_le _, sl, M1, k.ext m1 x1, .refl _ _, w0⟩, ?_⟩
  rintro i m σ' H' ⟨rfl, hi, sl', M', k', x', w⟩
  have g := ir S0 M' H' (.refl _ _) k'.mem x' (wg i sl' M' hi w)
  by_cases hlt : i < it.n
  · obtain ⟨g1, g2⟩ := g.1 i hlt
    refine .inr ⟨g1, fun σ2 H2 => ∃ sl2 M2, Ok X.K S0 sl2 M2 σ2 H2 ∧ Ext M1 H1 M2 H2 ∧ W (i + 1) sl2 M2, fun σ2 H2 h2 => ⟨it.n - (i + 1), by omega, rfl, hlt, h2⟩, fun y H'' hy => ?_⟩
    obtain ⟨m2, x2, r2⟩ := g2 y H'' hy
    have l2 := l.ext (x1.trans (x'.trans x2))
    refine s2 S0 sl' M' σ' H'' y (it.at_ i) _ _ (k'.ext m2 x2) r2 (wt i sl' M' hlt w) fun sl3 M3 σ3 H3 k3 x3 h3 => ?_
    have l3 := l2.ext x3
    have xx := (x'.trans x2).trans x3
    exact s3 S0 sl3 M3 σ3 H3 { Dd with nx := W (i + 1), ct := W (i + 1), bk := Dd.nx } _ k3 ⟨fun sl4 M4 σ4 H4 k4 x4 h4 => ⟨sl4, M4, k4, xx.trans x4, h4⟩, l3.rt, fun sl4 M4 σ4 H4 k4 x4 h4 => l3.nx sl4 M4 σ4 H4 k4 x4 h4, fun sl4 M4 σ4 H4 k4 x4 h4 => ⟨sl4, M4, k4, xx.trans x4, h4⟩, l3.ex⟩ h3
  · have e : i = it.n := by omega
    subst e
    exact .inl ⟨g.2, l.nx sl' M' σ' H' k' (x1.trans x') (we sl' M' w)⟩
def dWhile (t : DT) (tb : DS) : DS := fun Dd sl M => ∃ W : Nat → Slots → Mem → Prop, (∃ m, W m sl M) ∧ ∀ m sl M, W m sl M → t sl M (Dd.ex sl) fun c M1 =>
  if c = true then tb { Dd with nx := fun sl' M' => ∃ m', m' < m ∧ W m' sl' M', ct := fun sl' M' => ∃ m', m' < m ∧ W m' sl' M', bk := Dd.nx } sl M1 else Dd.nx sl M1
theorem ds_while (hp : PassesOwn (model X.prog X.w) X.A X.env X.xe) (hc : DTx X E c dt) (hb : DBx X E sts td) : DSx X E (.While c sts [] pos) (dWhile dt td) := by
  obtain ⟨t, p1, s1⟩ := hc
  obtain ⟨u, p3, s3⟩ := hb
  refine ⟨_, ps_while hp p1 p3, fun S0 sl M σ H Dd Dn k l h => ?_⟩
  obtain ⟨W, ⟨m0, w0⟩, turn⟩ := h
  refine ⟨fun m σ' H' => ∃ sl' M', Ok X.K S0 sl' M' σ' H' ∧ Ext M H M' H' ∧ W m sl' M', ⟨m0, sl, M, k, .refl _ _, w0⟩, ?_⟩
  rintro m σ' H' ⟨sl', M', k', x', w⟩
  have l' := l.ext x'
  refine s1 S0 sl' M' σ' H' _ _ _ k' (l'.xl k') (turn m sl' M' w) fun c M1 H1 m1 x1 q => ?_
  cases c with
  | true =>
    rw [if_pos rfl] at q ⊢
    have l1 := l'.ext x1
    refine ⟨fun σ2 H2 => ∃ m', m' < m ∧ ∃ sl2 M2, Ok X.K S0 sl2 M2 σ2 H2 ∧ Ext M H M2 H2 ∧ W m' sl2 M2, fun σ2 H2 ⟨m', hm, h2⟩ => ⟨m', hm, h2⟩, ?_⟩
    exact s3 S0 sl' M1 σ' H1 { Dd with nx := fun sl' M' => ∃ m', m' < m ∧ W m' sl' M', ct := fun sl' M' => ∃ m', m' < m ∧ W m' sl' M', bk := Dd.nx } _ (k'.ext m1 x1)
      ⟨fun sl4 M4 σ4 H4 k4 x4 ⟨m', hm, h4⟩ => ⟨m', hm, sl4, M4, k4, (x'.trans x1).trans x4, h4⟩, l1.rt, fun sl4 M4 σ4 H4 k4 x4 h4 => l1.nx sl4 M4 σ4 H4 k4 x4 h4, fun sl4 M4 σ4 H4 k4 x4 ⟨m', hm, h4⟩ => ⟨m', hm, sl4, M4, k4, (x'.trans x1).trans x4, h4⟩, l1.ex⟩ q
  | false =>
    rw [if_neg Bool.false_ne_true] at q ⊢
    exact l'.nx sl' M1 σ' H1 (k'.ext m1 x1) x1 q

/-! ### list comprehensions: one for, no test or one -/
def wipeD (sl : Slots) : List Nat → Slots
  | [] => sl
  | v :: vs => (wipeD sl vs).set v none
theorem wipe_ok {S : Mark} {H : Hp} {σ : L2.St} {sl : Slots} (hl : sl.length = σ.length) (h : SlOk K S H σ sl) : ∀ vs : List Nat, (wipeD sl vs).length = (wipe σ vs).length ∧ SlOk K S H (wipe σ vs) (wipeD sl vs)
  | [] => ⟨hl, h⟩
  | v :: vs => by
    obtain ⟨h1, h2⟩ := wipe_ok hl h vs
    refine ⟨by show ((wipeD sl vs).set v none).length = ((wipe σ vs).set v none).length; rw [List.length_set, List.length_set, h1], fun i d e => ?_⟩
    have e : ((wipeD sl vs).set v none)[i]? = some (some d) := e
    by_cases z : v = i
    · subst z
      have hlt : v < (wipeD sl vs).length := by
        have := (List.getElem?_eq_some_iff.mp e).1
        rwa [List.length_set] at this
      rw [List.getElem?_set_self hlt] at e
      cases e
    · rw [List.getElem?_set_ne z] at e
      obtain ⟨w, e1, r⟩ := h2 i d e
      refine ⟨w, ?_, r⟩
      show ((wipe σ vs).set v none)[i]? = _
      rw [List.getElem?_set_ne z]
      exact e1
theorem wipe_set {i : Nat} {x : Option V} : ∀ {vs : List Nat} {σ : L2.St}, i ∈ vs → wipe (σ.set i x) vs = wipe σ vs
  | v :: vs, σ, h => by
    show (wipe (σ.set i x) vs).set v none = (wipe σ vs).set v none
    by_cases z : i ∈ vs
    · rw [wipe_set z]
    · have e : i = v := by
        rcases List.mem_cons.mp h with e | e
        · exact e
        · exact absurd e z
      subst e
      have : ∀ (ws : List Nat) (τ : L2.St), i ∉ ws → wipe (τ.set i x) ws = (wipe τ ws).set i x := by
        intro ws
        induction ws with
        | nil => intro τ _; rfl
        | cons w ws ih =>
          intro τ hn
          show (wipe (τ.set i x) ws).set w none = ((wipe τ ws).set w none).set i x
          rw [ih τ (fun q => hn (List.mem_cons_of_mem _ q)), List.set_comm _ _ (fun q => hn (by rw [q]; simp))]
      rw [this vs σ z, List.set_set]
theorem wipe_wipe {σ : L2.St} : ∀ vs : List Nat, wipe (wipe σ vs) vs = wipe σ vs := by
  have : ∀ (ws vs : List Nat), (∀ i ∈ ws, i ∈ vs) → wipe (wipe σ ws) vs = wipe σ vs := by
    intro ws
    induction ws with
    | nil => intro vs _; rfl
    | cons w ws ih =>
      intro vs h
      show wipe ((wipe σ ws).set w none) vs = _
      rw [wipe_set (h w (by simp)), ih vs fun i hi => h i (List.mem_cons_of_mem _ hi)]
  exact fun vs => this vs vs fun _ h => h
/-- a target of a comprehension stores in its own names alone -/
def WG (vs : List Nat) (g : TG) : Prop := ∀ (v : V) (σ : L2.St) (H : Hp) (Q : L2.St → Hp → Prop), g v σ H Q → g v σ H fun σ' H' => wipe σ' vs = wipe σ vs ∧ Q σ' H'
def WGs (vs : List Nat) (g : TGs) : Prop := ∀ (v : List V) (σ : L2.St) (H : Hp) (Q : L2.St → Hp → Prop), g v σ H Q → g v σ H fun σ' H' => wipe σ' vs = wipe σ vs ∧ Q σ' H'
def MG (g : TG) : Prop := ∀ (v : V) (σ : L2.St) (H : Hp) (P P' : L2.St → Hp → Prop), (∀ a b, P a b → P' a b) → g v σ H P → g v σ H P'
def MGs (g : TGs) : Prop := ∀ (v : List V) (σ : L2.St) (H : Hp) (P P' : L2.St → Hp → Prop), (∀ a b, P a b → P' a b) → g v σ H P → g v σ H P'
structure DCx (X : Cx) (e : Expr) (vs : List Nat) (td : DG) : Prop where
  ex : ∃ t, PG X e t ∧ SimG X.K t td ∧ WG vs t ∧ MG t
structure DCsx (X : Cx) (e : List Expr) (vs : List Nat) (td : DGs) : Prop where
  ex : ∃ t, PGs X e t ∧ SimGs X.K t td ∧ WGs vs t ∧ MGs t
theorem dc_name {i : Nat} {x : Str} {vs : List Nat} (hN : X.N.Nodup) (hm : i ∈ vs) (hi : X.N[i]? = some x := by rfl) (hx : Loc X.env.scope x := by first | exact .inl rfl | exact .inr rfl) (hf : X.fn x = true ∨ X.env.scope.names.lookup x = some .local := by first | exact .inl rfl | exact .inr rfl) : DCx X (.Name x pos) vs (dName i) :=
  ⟨_, pg_name hN hi hx hf, sim_name, fun v σ H Q h => ⟨wipe_set hm, h⟩, fun v σ H P P' hp h => hp _ _ h⟩
theorem dcs_nil {vs : List Nat} : DCsx X [] vs dgNil := ⟨_, pgs_nil, fun S0 sl M σ H v d Q QD k r h l => by
  obtain ⟨rfl, h⟩ := h
  cases r
  exact ⟨rfl, l _ _ _ _ k (.refl _ _) h⟩, fun v σ H Q h => ⟨h.1, rfl, h.2⟩, fun v σ H P P' hp h => ⟨h.1, hp _ _ h.2⟩⟩
theorem dcs_cons {vs : List Nat} {t : DG} {u : DGs} (h1 : DCx X a vs t) (h2 : DCsx X es vs u) (hs : (assignEach (a :: es) X.env).map (·.2) = assign a X.env :: (assignEach es X.env).map (·.2) := by rfl) : DCsx X (a :: es) vs (dgCons t u) := by
  obtain ⟨t', p, s, w, mt⟩ := h1
  obtain ⟨u', q, r, y, mu⟩ := h2
  refine ⟨_, pgs_cons p q hs, fun S0 sl M σ H v d Q QD k rr h l => ?_, fun v σ H Q h => ?_, fun v σ H P P' hp h => ?_⟩
  · obtain ⟨d, ds, rfl, h⟩ := h
    cases rr with
    | cons r1 r2 =>
      refine ⟨_, _, rfl, s S0 sl M σ H _ d _ _ k r1 h fun sl' M' σ' H' k' x' h' => ?_⟩
      exact r S0 sl' M' σ' H' _ ds Q QD k' (r2.ext x') h' fun sl2 M2 σ2 H2 k2 x2 h2 => l _ _ _ _ k2 (x'.trans x2) h2
  · obtain ⟨x, xs, rfl, h⟩ := h
    refine ⟨x, xs, rfl, mt x σ H _ _ (fun σ' H' z => ?_) (w x σ H _ h)⟩
    exact mu xs σ' H' _ _ (fun σ2 H2 z2 => ⟨z2.1.trans z.1, z2.2⟩) (y xs σ' H' _ z.2)
  · obtain ⟨x, xs, rfl, h⟩ := h
    exact ⟨x, xs, rfl, mt x σ H _ _ (fun σ' H' z => mu xs σ' H' _ _ hp z) h⟩
theorem dc_tup {j n : Nat} {t : DGs} {vs : List Nat} (hc : X.calm = true) (h : DCsx X es vs t) (hn : (assignEach es X.env).length = n := by rfl) (hst : (assignEach es X.env).findIdx? (·.1) = none := by rfl) : DCx X (.Tuple es j pos) vs (dgTup n t) := by
  obtain ⟨t', p, s, w, mt⟩ := h
  refine ⟨_, pg_tup hc p hn hst, fun S0 sl M σ H v d Q QD k r h l => ?_, fun v σ H Q h => ?_, fun v σ H P P' hp h => ?_⟩
  · cases d with
    | tup ds =>
      obtain ⟨h1, h2⟩ := h
      cases r with
      | tup r1 r2 => exact ⟨_, _, rfl, r1.sq, by rw [r2.length]; exact h1, s S0 sl M σ H _ ds Q QD k r2 h2 l⟩
    | _ => exact h.elim
  · obtain ⟨a, xs, e, h1, h2, h3⟩ := h
    exact ⟨a, xs, e, h1, h2, w xs σ H _ h3⟩
  · obtain ⟨a, xs, e, h1, h2, h3⟩ := h
    exact ⟨a, xs, e, h1, h2, mt xs σ H _ _ hp h3⟩
structure DPx (X : Cx) (E : L2.St → XK) (ifs : List Expr) (td : DT) : Prop where
  ex : ∃ t, PTs X ifs t ∧ SimT X.K E t td
def dYes : DT := fun _ M _ Q => Q true M
theorem dp_nil : DPx X E [] dYes := ⟨_, pts_nil, fun S0 sl M σ H Q QD ED k xl hd l => l true M H k.mem (.refl _ _) hd⟩
theorem dp_one (h : DTx X E c dt) : DPx X E [c] dt := by
  obtain ⟨t, p, s⟩ := h
  exact ⟨_, pts_one p, s⟩
def NoX : XD := fun _ _ _ => False
/-- W by the turn, what is made so far, the memory -/
def dLc (o : Bool) (di : DI) (vs : List Nat) (dg : DG) (tt : DT) (te : DE) : DE := fun sl M ED Q => di sl M ED fun it M1 => ∃ W : Nat → List D → Mem → Prop, W 0 [] M1 ∧ (∀ j acc M, j ≤ it.n → W j acc M → it.gd M) ∧
  (∀ j acc M, j < it.n → W j acc M → dg (it.at_ j) (wipeD sl vs) M fun sl2 M2 => tt sl2 M2 NoX fun b M3 => if b = true then te sl2 M3 NoX fun d M4 => acc.length < sizeLine ∧ W (j + 1) (acc ++ [d]) M4 else W (j + 1) acc M3) ∧
  ∀ acc M, W it.n acc M → al o (.lst acc) M Q
theorem MemOk.weak {S0 S1 : Mark} {M : Mem} {H : Hp} (m : MemOk K S1 M H) (h : ∀ a, S0 a → S1 a) : MemOk K S0 M H :=
  ⟨m.nd, fun e he => (m.at_ e he).mono (fun b o eb n => ⟨eb, fun z => n (z.elim (fun z => .inl (h b z)) .inr)⟩) rfl, fun a s => m.trk a (h a s), fun a ha s => m.dis a ha (h a s)⟩
theorem Rep.weak {S0 S1 : Mark} {M : Mem} {H : Hp} {v : V} {d : D} (r : Rep K (SM S1 M) H v d) (h : ∀ a, S0 a → S1 a) : Rep K (SM S0 M) H v d :=
  Rep.mono (fun b o eb n => ⟨eb, fun z => n (z.elim (fun z => .inl (h b z)) .inr)⟩) d v r
theorem XL.no {S0 : Mark} {M : Mem} {H : Hp} {E : XK} : XL K S0 M H E NoX := fun _ _ _ _ _ _ _ _ z => z.elim
theorem sim_lc {o : Bool} {wi : TI} {di : DI} {g : TG} {dg : DG} {t : TT} {te : TE} {tt : DT} {de : DE} {vs : List Nat} {E' : L2.St → XK} (s1 : SimI K E wi di) (s2 : SimG K g dg) (mg : WG vs g) (s3 : SimT K E' t tt) (s4 : SimE K E' te de) : SimE K E (tLc wi g t te vs) (dLc o di vs dg tt de) := by
  intro S0 sl M σ H Q QD ED k xl hd l
  refine s1 S0 sl M σ H _ _ ED k xl hd fun it M1 J H1 m1 x1 ir q => ?_
  obtain ⟨W, w0, wg, wt, we⟩ := q
  intro Dl hD
  -- the new list is marked while it grows
  let S1 : Mark := fun a => S0 a ∨ a = Dl
  have mk : Mk S0 H1 S1 := ⟨fun a h => .inl h, fun a h => h.imp _root_.id fun e => by rw [e]; exact hD⟩
  have hs : ∀ a, S0 a → S1 a := fun a h => .inl h
  have k1 := k.ext m1 x1
  have St : ∀ {acc : List D} {vs' : List V} {M' : Mem} {H' : Hp}, MemOk K S1 M' H' → Ext M1 H1 M' H' → Ok K S1 sl M' σ H' := fun {acc vs' M' H'} m x =>
    ⟨k.len, fun i d e => let ⟨v, e2, r⟩ := k1.sl i d e; ⟨v, e2, Rep.mono (x.kpM mk) d v r⟩, m⟩
  refine ⟨fun i m H' => m = it.n - i ∧ i ≤ it.n ∧ ∃ (acc : List D) (accV : List V) (M' : Mem), MemOk K S1 M' H' ∧ Ext M1 H1 M' H' ∧ H' Dl = some (.lst accV) ∧ Reps K (SM S1 M') H' accV acc ∧ W i acc M', ⟨it.n, by simp, Nat.zero_le _, [], [], M1, ?_, .new_imm hD, upd_same, .nil, w0⟩, ?_⟩
  · have b := m1.new_imm (o := .lst []) hD
    refine ⟨b.nd, fun e he => (m1.at_ e he).mono ((Ext.new_imm (M := M1) (o := .lst []) hD).kpM mk) ?_, fun a h => ?_, fun a ha h => ?_⟩
    · rw [upd_ne]
      intro z
      exact (m1.at_ e he).some (by rw [z]; exact hD)
    · rcases h with h | h
      · exact b.trk a h
      · rw [h, upd_same]; exact fun z => by cases z
    · rcases h with h | h
      · exact m1.dis a ha h
      · rw [h] at ha; exact m1.notKey hD ha
  · rintro i m H' ⟨rfl, hi, acc, accV, M', m', x', eD, rD, w⟩
    have gg := ir S1 M' H' mk m' x' (wg i acc M' hi w)
    by_cases hlt : i < it.n
    · obtain ⟨g1, g2⟩ := gg.1 i hlt
      refine .inr ⟨g1, fun H2 => ∃ (acc : List D) (accV : List V) (M2 : Mem), MemOk K S1 M2 H2 ∧ Ext M1 H1 M2 H2 ∧ H2 Dl = some (.lst accV) ∧ Reps K (SM S1 M2) H2 accV acc ∧ W (i + 1) acc M2, fun H2 h2 => ⟨it.n - (i + 1), by omega, rfl, hlt, h2⟩, fun y H'' hy => ?_⟩
      obtain ⟨m2, x2, r2⟩ := g2 y H'' hy
      have kk : Ok K S1 sl M' σ H'' := St (acc := acc) (vs' := accV) m2 (x'.trans x2)
      have kw : Ok K S1 (wipeD sl vs) M' (wipe σ vs) H'' := let z := wipe_ok kk.len kk.sl vs; ⟨z.1, z.2, m2⟩
      have nD : ∀ {M'' : Mem} {h : Hp}, MemOk K S1 M'' h → Dl ∉ keys M'' := fun m z => m.dis Dl z (.inr rfl)
      have base := s2 S1 (wipeD sl vs) M' (wipe σ vs) H'' y (it.at_ i) (fun σ2 H2 => t σ2 H2 fun b H3 => if b = true then te σ2 H3 fun y H4 => ∃ acc, H4 Dl = some (.lst acc) ∧ acc.length < sizeLine ∧ (∃ (acc' : List D) (accV : List V) (M2 : Mem), MemOk K S1 M2 (upd H4 Dl (.lst (acc ++ [y]))) ∧ Ext M1 H1 M2 (upd H4 Dl (.lst (acc ++ [y]))) ∧ upd H4 Dl (.lst (acc ++ [y])) Dl = some (.lst accV) ∧ Reps K (SM S1 M2) (upd H4 Dl (.lst (acc ++ [y]))) accV acc' ∧ W (i + 1) acc' M2) else
        (∃ (acc : List D) (accV : List V) (M2 : Mem), MemOk K S1 M2 H3 ∧ Ext M1 H1 M2 H3 ∧ H3 Dl = some (.lst accV) ∧ Reps K (SM S1 M2) H3 accV acc ∧ W (i + 1) acc M2)) _ kw r2 (wt i acc M' hlt w) fun sl3 M3 σ3 H3 k3 x3 q3 => ?_
      · have z := mg y (wipe σ vs) H'' _ base
        rw [wipe_wipe] at z
        exact z
      · refine s3 S1 sl3 M3 σ3 H3 _ _ NoX k3 XL.no q3 fun b M4 H4 m4 x4 q4 => ?_
        have x34 := (x2.trans x3).trans x4
        cases b with
        | false =>
          rw [if_neg Bool.false_ne_true] at q4 ⊢
          exact ⟨acc, accV, M4, m4, x'.trans x34, x34.keep _ _ eD (nD m'), rD.ext x34, q4⟩
        | true =>
          rw [if_pos rfl] at q4 ⊢
          refine s4 S1 sl3 M4 σ3 H4 _ _ NoX (k3.ext m4 x4) XL.no q4 fun d M5 u H5 m5 x5 r5 q5 => ?_
          obtain ⟨ql, qw⟩ := q5
          have x35 := x34.trans x5
          have e5 := x35.keep _ _ eD (nD m')
          -- the list with one item more
          have kp : Kp (SM S1 M5) H5 (SM S1 M5) (upd H5 Dl (.lst (accV ++ [u]))) := fun b ob eb n => ⟨by rw [upd_ne (fun z => n (.inl (.inr z)))]; exact eb, n⟩
          refine ⟨accV, e5, by rw [rD.length]; exact ql, acc ++ [d], accV ++ [u], M5, ?_, ?_, upd_same, Reps.mono kp _ _ ((rD.ext x35).append (.one r5)), qw⟩
          · refine ⟨m5.nd, fun e he => (m5.at_ e he).mono kp ?_, fun a h => ?_, m5.dis⟩
            · rw [upd_ne]
              intro z
              exact nD m5 (z ▸ List.mem_map.mpr ⟨e, he, rfl⟩)
            · by_cases z : a = Dl
              · rw [z, upd_same]; exact fun z => by cases z
              · rw [upd_ne z]; exact m5.trk a h
          · have xx := x'.trans x35
            refine ⟨fun b ob eb n => ?_, xx.new, fun b hb => ?_⟩
            · rw [upd_ne (ne_of_none eb hD)]
              exact xx.keep b ob eb n
            · by_cases z : b = Dl
              · rw [z, upd_same]; exact fun z => by cases z
              · rw [upd_ne z]; exact xx.trk b hb
    · have e : i = it.n := by omega
      subst e
      refine .inl ⟨gg.2, ?_⟩
      have q := we acc M' w
      have l' := l.ext (x1.trans x')
      have nD : Dl ∉ keys M' := fun z => m'.dis Dl z (.inr rfl)
      have nS : ¬ S0 Dl := fun z => m1.trk Dl z hD
      have hH : H Dl = none := Classical.byContradiction fun z => x1.trk Dl z hD
      cases o with
      | false =>
        have m0 : MemOk K S0 M' H' := m'.weak hs
        have kp : Kp (SM S1 M') H' (SM S0 M') H' := fun b o eb n => ⟨eb, fun z => n (z.elim (fun z => .inl (hs b z)) .inr)⟩
        exact l'.now m0 (.lst (fun z => z.elim nS nD) eD (Reps.mono kp _ _ rD)) q
      | true =>
        have sm : SM S0 (M' ++ [(Dl, .lst acc)]) = SM S1 M' := by
          funext a
          unfold SM
          rw [keys_append]
          refine propext ⟨fun h => ?_, fun h => ?_⟩
          · rcases h with h | h
            · exact .inl (.inl h)
            · rcases List.mem_append.mp h with h | h
              · exact .inr h
              · have : a = Dl := by simpa [keys] using h
                exact .inl (.inr this)
          · rcases h with (h | h) | h
            · exact .inl h
            · exact .inr (List.mem_append_right _ (by simp [keys, h]))
            · exact .inr (List.mem_append_left _ h)
        refine l (.ref Dl) _ _ _ ⟨?_, fun e he => ?_, fun a h => m'.trk a (hs a h), fun a ha => ?_⟩ ⟨(x1.trans x').keep, fun b hb => ?_, (x1.trans x').trk⟩ (.ref Dl) (q Dl nD)
        · rw [keys_append]
          refine List.nodup_append.mpr ⟨m'.nd, by simp [keys], fun a ha b hb z => ?_⟩
          have : b = Dl := by simpa [keys] using hb
          exact nD (by rw [← this, ← z]; exact ha)
        · rw [sm]
          rcases List.mem_append.mp he with he | he
          · exact m'.at_ e he
          · have : e = (Dl, .lst acc) := by simpa using he
            subst this
            exact ⟨accV, eD, rD⟩
        · rw [keys_append] at ha
          rcases List.mem_append.mp ha with h | h
          · exact fun z => m'.dis a h (.inl z)
          · have : a = Dl := by simpa [keys] using h
            rw [this]; exact nS
        · rw [keys_append] at hb
          rcases List.mem_append.mp hb with h | h
          · exact (x1.trans x').new b h
          · have : b = Dl := by simpa [keys] using h
            rw [this]; exact .inr hH
theorem de_lc (o : Bool) {scope : Scope} {own : List (Str × Nat)} {ifs : List Expr} {elt : Expr} {di : DI} {dg : DG} {tt : DT} {te : DE} (hc : X.calm = true) (hN : X.N.Nodup) (hi : DIx X E tg iter di) (ok : BlkOk X.N X.env.scope scope own)
    (hg : ∀ (s : Shared) (H : Hp) (C : Addr) (cl : List (Str × Addr)) (fp : List Addr), DCx (X.blk s H scope (compEnvC scope cl C X.env) fp) tg (own.map (·.2)) dg)
    (ht : ∀ (s : Shared) (H : Hp) (C : Addr) (cl : List (Str × Addr)) (fp : List Addr), DPx (X.blk s H scope (compEnvC scope cl C X.env) fp) (fun _ => E0) ifs tt)
    (he : ∀ (s : Shared) (H : Hp) (C : Addr) (cl : List (Str × Addr)) (fp : List Addr), DEx (X.blk s H scope (compEnvC scope cl C X.env) fp) (fun _ => E0) elt te) (hs : ∀ x, foldedSetIterable iter X.env x = pure x := by intro _; rfl) :
    DEx X E (.ListComp elt [⟨tg, iter, ifs, 0⟩] scope pos) (dLc o di (own.map (·.2)) dg tt te) := by
  obtain ⟨wi, p1, s1⟩ := hi
  refine ⟨_, pe_lc (g := fun v σ H Q => ∀ s H0 C cl fp, (hg s H0 C cl fp).ex.choose v σ H Q) (tt := fun σ H Q => ∀ s H0 C cl fp, (ht s H0 C cl fp).ex.choose σ H Q) (te := fun σ H Q => ∀ s H0 C cl fp, (he s H0 C cl fp).ex.choose σ H Q) hc hN p1 ok
    (fun s H0 C cl fp => ⟨fun pins st σ H v u Q I r h => (hg s H0 C cl fp).ex.choose_spec.1.run pins st σ H v u Q I r (h s H0 C cl fp)⟩)
    (fun s H0 C cl fp => ⟨fun pins st σ H Q I h => (ht s H0 C cl fp).ex.choose_spec.1.run pins st σ H Q I (h s H0 C cl fp)⟩)
    (fun s H0 C cl fp => ⟨fun pins st σ H Q I h => (he s H0 C cl fp).ex.choose_spec.1.run pins st σ H Q I (h s H0 C cl fp)⟩) hs, ?_⟩
  refine sim_lc (E' := fun _ => E0) s1 ?_ ?_ ?_ ?_
  · exact fun S0 sl M σ H v d Q QD k r h l s H0 C cl fp => (hg s H0 C cl fp).ex.choose_spec.2.1 S0 sl M σ H v d Q QD k r h l
  · exact fun v σ H Q h s H0 C cl fp => (hg s H0 C cl fp).ex.choose_spec.2.2.1 v σ H Q (h s H0 C cl fp)
  · exact fun S0 sl M σ H Q QD ED k xl h l s H0 C cl fp => (ht s H0 C cl fp).ex.choose_spec.2 S0 sl M σ H Q QD ED k xl h l
  · exact fun S0 sl M σ H Q QD ED k xl h l s H0 C cl fp => (he s H0 C cl fp).ex.choose_spec.2 S0 sl M σ H Q QD ED k xl h l
/-- name = [..], the name a local that no block has -/
theorem ds_setLc (o : Bool) {i : Nat} {y : Str} {py spos : Pos} {scope : Scope} {own : List (Str × Nat)} {ifs : List Expr} {elt : Expr} {di : DI} {dg : DG} {tt : DT} {te : DE} (hc : X.calm = true) (hN : X.N.Nodup) (hi : DIx X E tg iter di) (ok : BlkOk X.N X.env.scope scope own)
    (hg : ∀ (s : Shared) (H : Hp) (C : Addr) (cl : List (Str × Addr)) (fp : List Addr), DCx (X.blk s H scope (compEnvC scope cl C X.env) fp) tg (own.map (·.2)) dg)
    (ht : ∀ (s : Shared) (H : Hp) (C : Addr) (cl : List (Str × Addr)) (fp : List Addr), DPx (X.blk s H scope (compEnvC scope cl C X.env) fp) (fun _ => E0) ifs tt)
    (he : ∀ (s : Shared) (H : Hp) (C : Addr) (cl : List (Str × Addr)) (fp : List Addr), DEx (X.blk s H scope (compEnvC scope cl C X.env) fp) (fun _ => E0) elt te)
    (hy : X.N[i]? = some y := by rfl) (hyl : X.env.scope.names.lookup y = some .local := by rfl) (hk : X.env.scope.kind = .function := by rfl) (hl : (py.line == pos.line) = true := by rfl)
    (ha : (scope.names.any fun (n, k) => n == y && (k == .local || k == .cell)) = false := by rfl) (hs : ∀ x, foldedSetIterable iter X.env x = pure x := by intro _; rfl) :
    DSx X E (.Assign [.Name y py] (.ListComp elt [⟨tg, iter, ifs, 0⟩] scope pos) spos) (dAsg (dLc o di (own.map (·.2)) dg tt te) (dName i)) := by
  obtain ⟨wi, p1, s1⟩ := hi
  refine ⟨_, ps_setLc (g := fun v σ H Q => ∀ s H0 C cl fp, (hg s H0 C cl fp).ex.choose v σ H Q) (tt := fun σ H Q => ∀ s H0 C cl fp, (ht s H0 C cl fp).ex.choose σ H Q) (te := fun σ H Q => ∀ s H0 C cl fp, (he s H0 C cl fp).ex.choose σ H Q) hc hN hy hyl (sw_true hk hyl hl ha) p1 ok
    (fun s H0 C cl fp => ⟨fun pins st σ H v u Q I r h => (hg s H0 C cl fp).ex.choose_spec.1.run pins st σ H v u Q I r (h s H0 C cl fp)⟩)
    (fun s H0 C cl fp => ⟨fun pins st σ H Q I h => (ht s H0 C cl fp).ex.choose_spec.1.run pins st σ H Q I (h s H0 C cl fp)⟩)
    (fun s H0 C cl fp => ⟨fun pins st σ H Q I h => (he s H0 C cl fp).ex.choose_spec.1.run pins st σ H Q I (h s H0 C cl fp)⟩) hs, sim_asg (sim_lc (E' := fun _ => E0) s1 ?_ ?_ ?_ ?_) sim_name⟩
  · exact fun S0 sl M σ H v d Q QD k r h l s H0 C cl fp => (hg s H0 C cl fp).ex.choose_spec.2.1 S0 sl M σ H v d Q QD k r h l
  · exact fun v σ H Q h s H0 C cl fp => (hg s H0 C cl fp).ex.choose_spec.2.2.1 v σ H Q (h s H0 C cl fp)
  · exact fun S0 sl M σ H Q QD ED k xl h l s H0 C cl fp => (ht s H0 C cl fp).ex.choose_spec.2 S0 sl M σ H Q QD ED k xl h l
  · exact fun S0 sl M σ H Q QD ED k xl h l s H0 C cl fp => (he s H0 C cl fp).ex.choose_spec.2 S0 sl M σ H Q QD ED k xl h l
end
end OD

/-! OD9: a def keeps its promise. -/
namespace OD
open PySem PySem.Spec L2

def startD (N : List Str) (ds : List D) : Slots := ds.map some ++ List.replicate (N.length - ds.length) none
theorem start_ok {K : PySem.W.Frag} {S0 : Mark} {M : Mem} {H : Hp} {N : List Str} {vs : List V} {ds : List D} (m : MemOk K S0 M H) (r : Reps K (SM S0 M) H vs ds) : Ok K S0 (startD N ds) M (L2.start N vs) H := by
  refine ⟨?_, fun i d e => ?_, m⟩
  · unfold startD L2.start
    rw [List.length_append, List.length_append, List.length_map, List.length_map, List.length_replicate, List.length_replicate, r.length]
  · unfold startD at e
    have hi : i < ds.length := by
      by_cases h : i < ds.length
      · exact h
      · rw [List.getElem?_append_right (by simpa using h), List.getElem?_replicate] at e
        split at e <;> cases e
    rw [List.getElem?_append_left (by simpa using hi), List.getElem?_map, List.getElem?_eq_getElem hi] at e
    cases e
    obtain ⟨v, e2, rv⟩ := r.get (List.getElem?_eq_getElem hi)
    refine ⟨v, ?_, rv⟩
    unfold L2.start
    have hv : i < vs.length := by rw [r.length]; exact hi
    rw [List.getElem?_append_left (by simpa using hv), List.getElem?_map, e2]
    rfl
theorem sub_keys2 {M M' : Mem} (h : M.Sublist M') : ∀ a, a ∈ keys M → a ∈ keys M' := fun a ha => by
  obtain ⟨e, he, rfl⟩ := List.mem_map.mp ha
  exact List.mem_map.mpr ⟨e, h.subset he, rfl⟩
theorem MemOk.sub {K : PySem.W.Frag} {S0 : Mark} {M M' : Mem} {H : Hp} (m : MemOk K S0 M' H) (h : M.Sublist M') : MemOk K S0 M H :=
  ⟨m.nd.sublist (h.map _), fun e he => (m.at_ e (h.subset he)).mono (fun b o eb n => ⟨eb, fun z => n (z.elim .inl fun z => .inr (sub_keys2 h b z))⟩) rfl, m.trk, fun a ha => m.dis a (sub_keys2 h a ha)⟩
theorem Ext.sub {M M1 M2 : Mem} {H H' : Hp} (x : Ext M H M1 H') (h : M2.Sublist M1) : Ext M H M2 H' := ⟨x.keep, fun b hb => x.new b (sub_keys2 h b hb), x.trk⟩
theorem Rep.sub {K : PySem.W.Frag} {S0 : Mark} {M M' : Mem} {H : Hp} {v : V} {d : D} (r : Rep K (SM S0 M') H v d) (h : M.Sublist M') : Rep K (SM S0 M) H v d :=
  Rep.mono (fun b o eb n => ⟨eb, fun z => n (z.elim .inl fun z => .inr (sub_keys2 h b z))⟩) d v r
/-- what a body must come to: some of the owned objects are let go -/
def Out (M : Mem) (QD : DK) : DK := fun d M' => ∃ M'' : Mem, M''.Sublist M' ∧ Pre M M'' ∧ QD d M''
def outs (M : Mem) (QD : DK) : DEnds := { nx := fun _ M' => Out M QD .non M', rt := Out M QD }
theorem Out.all {M M' : Mem} {QD : DK} {d : D} (p : Pre M M') (q : QD d M') : Out M QD d M' := ⟨M', List.Sublist.refl _, p, q⟩
theorem Out.none {M' : Mem} {QD : DK} {d : D} (q : QD d []) : Out [] QD d M' := ⟨[], List.nil_sublist _, rfl, q⟩
theorem Out.pre {M M1 M2 : Mem} {QD : DK} {d : D} (p : keys M1 = keys M) (q : QD d M1) : Out M QD d (M1 ++ M2) := by
  refine ⟨M1, List.sublist_append_left _ _, ?_, q⟩
  have hl : M1.length = M.length := by
    have := congrArg List.length p
    unfold keys at this
    rwa [List.length_map, List.length_map] at this
  unfold Pre
  rw [← hl, List.take_length, p]
section
variable {P : Program} {w : World} {K : PySem.W.Frag} {mg : Str → Option Value} {base : Heap} {x qual : Str} {st : Stmt} {f : Addr} {fd : FuncData} {N ps : List Str} {k : Nat} {F : FD} {td : DS}
/-- THE RULE for a def that lets nothing out -/
theorem fn_d (Fn : Fun K x qual st f fd) (S : FnScope N ps (defScope st)) (hlen : ∀ ds M ED QD, F ds M ED QD → ds.length = ps.length)
    (hder : ∀ (cdv : Value) (A : Around) (outer : List Env) (s : Shared) (H : Hp) (E : XK), Room k (A.deeper (PyProof.Rows.envOfC qual (defScope st) s.heap.objs.size f cdv)) →
      DBx (cxOf CX0 P w K mg base N qual (defScope st) f cdv A outer s H E).nox (fun _ => E0) (defBody st) td)
    (hrd : ∀ ds M ED QD, F ds M ED QD → td (outs M QD) (startD N ds) M) : FnOk P w K mg base CX0 (k + 1) f fd ps (spD K F) := by
  refine Fn.ok S (fun vs H Q E h => ?_) (fun cdv A outer s H vs Q E hr h => ?_)
  · obtain ⟨S0, ds, M, QD, ED, m, r, h, _⟩ := h
    rw [r.length]
    exact hlen _ _ _ _ h
  · obtain ⟨S0, ds, M, QD, ED, m, r, h, lq, _⟩ := h
    obtain ⟨t, p, s'⟩ := (hder cdv A outer s H E hr).ex
    refine ⟨t, p, s' S0 (startD N ds) M (L2.start N vs) H (outs M QD) _ (start_ok m r) ⟨fun sl' M' σ' H' k' x' h' => ?_, fun d M' v H' m' x' r' h' => ?_, fun _ _ _ _ _ _ z => z.elim, fun _ _ _ _ _ _ z => z.elim, fun _ _ _ _ _ _ => XL.no⟩ (hrd ds M ED QD h)⟩
    · obtain ⟨M2, sb, pr, q⟩ := h'
      exact lq .non M2 .non H' (k'.mem.sub sb) (x'.sub sb) pr .non q
    · obtain ⟨M2, sb, pr, q⟩ := h'
      exact lq d M2 v H' (m'.sub sb) (x'.sub sb) pr (r'.sub sb) q
/-- a def of the top keeps its promise at whatever place it stands -/
structure DefOk (P : Program) (w : World) (K : PySem.W.Frag) (mg : Str → Option Value) (base : Heap) (k : Nat) (x : Str) (ps : List Str) (F : FD) : Prop where
  ex : ∃ (f : Addr) (fd : FuncData), mg x = some (.ref f) ∧ PySem.W.keepIn K (.ref f) = true ∧ Binds K fd ps [] ∧ FnOk P w K mg base CX0 k f fd ps (spD K F)
theorem DefOk.of (Fn : Fun K x x st f fd) (m : mg x = some (.ref f)) (b : Binds K fd ps []) (S : FnScope N ps (defScope st)) (hlen : ∀ ds M ED QD, F ds M ED QD → ds.length = ps.length)
    (hder : ∀ (cdv : Value) (A : Around) (outer : List Env) (s : Shared) (H : Hp) (E : XK), Room k (A.deeper (PyProof.Rows.envOfC x (defScope st) s.heap.objs.size f cdv)) →
      DBx (cxOf CX0 P w K mg base N x (defScope st) f cdv A outer s H E).nox (fun _ => E0) (defBody st) td)
    (hrd : ∀ ds M ED QD, F ds M ED QD → td (outs M QD) (startD N ds) M) : DefOk P w K mg base (k + 1) x ps F :=
  ⟨f, fd, m, Fn.kp, b, fn_d Fn S hlen hder hrd⟩
/-- a def that is never called but as the law -/
def spLaw (K : PySem.W.Frag) : Sp := fun vs H Q _ => ∃ (a : Addr) (ns : List Int), vs = [.ref a] ∧ SqL K H a (ns.map V.int) ∧ ns.length ≤ 63 ∧ ∀ H', Q (.bl true) H'
def fdLaw : FD := fun ds M _ Q => ∃ ns : List Int, ds = [.scr ns] ∧ M = [] ∧ ns.length ≤ 63 ∧ Q (.bl true) []
theorem fdLaw_len : ∀ ds M ED QD, fdLaw ds M ED QD → ds.length = 1 := fun ds M ED QD ⟨ns, e, _⟩ => by rw [e]; rfl
theorem law_ok (h : FnOk P w K mg base CX0 k f fd ps (spD K fdLaw)) : FnOk P w K mg base CX0 k f fd ps (spLaw K) := h.imp fun vs H Q E ⟨a, ns, e, hs, hl, q⟩ => by
  subst e
  have m0 : MemOk K (fun _ => False) [] H := ⟨List.nodup_nil, fun e h => (List.not_mem_nil h).elim, fun a h => h.elim, fun a h => (List.not_mem_nil h).elim⟩
  refine ⟨fun _ => False, [.scr ns], [], fun d _ => d = .bl true, fun _ _ _ => False, m0, .one (.scr ?_), ⟨ns, rfl, rfl, hl, rfl⟩, fun d M' v H' m x p r e => ?_, fun _ _ _ _ _ _ _ _ _ z => z.elim⟩
  · rcases hs with hs | hs
    · exact .inl ⟨fun z => z.elim _root_.id fun z => (List.not_mem_nil z).elim, hs⟩
    · exact .inr hs
  · subst e
    cases r
    exact q H'
end
section
variable {X : Cx} {E : L2.St → XK} {a : Expr} {es : List Expr} {pos p : Pos} {dr : DA} {F : FD} {x : Str} {ps : List Str} {k : Nat}
theorem de_callD (c : DefOk X.prog X.w X.K X.mg X.base k x ps F) (hr : Room k X.A) (ks : List Nat) (ha : DAx X E (a :: es) dr) (hk : ks.Nodup := by decide) (hg : Gl X x := by rfl) (hdb : (x == ("__debug__" : Str)) = false := by decide)
    (he : starEach (a :: es) X.env = (false, eval a X.env) :: starEach es X.env := by rfl) (hpl : (backTo pos (starEach es X.env)).any (·.1) = false := by rfl) : DEx X E (.Call (.Name x p) (a :: es) [] pos) (dCall0 F ks dr) := by
  obtain ⟨f, fd, m, kp, b, G⟩ := c
  exact de_call G hr m kp b ks ha hk hg hdb he hpl
theorem de_callD0 (c : DefOk X.prog X.w X.K X.mg X.base k x ps F) (hr : Room k X.A) (ks : List Nat) (hk : ks.Nodup := by decide) (hg : Gl X x := by rfl) (hdb : (x == ("__debug__" : Str)) = false := by decide) : DEx X E (.Call (.Name x p) [] [] pos) (dCall0 F ks dNil) := by
  obtain ⟨f, fd, m, kp, b, G⟩ := c
  exact de_call0 G hr m kp b ks hk hg hdb
end
end OD

/-! OD10: a call of what an expression gives. -/
namespace OD
open PySem PySem.Spec L2
/-- a def that is known by its address -/
structure HeldD (P : Program) (w : World) (K : PySem.W.Frag) (mg : Str → Option Value) (base : Heap) (k : Nat) (f : Addr) (F : FD) : Prop where
  ex : ∃ (fd : FuncData) (ps : List Str), FnOk P w K mg base CX0 k f fd ps (spD K F) ∧ PySem.W.keepIn K (.ref f) = true ∧ Binds K fd ps []
def tCallE (K : PySem.W.Frag) (tf : TE) (S : Addr → FD → Prop) (t : TA) : TE := fun σ H Q => tf σ H fun v H1 => ∃ f F, v = .ref f ∧ S f F ∧ t σ H1 fun vs H2 => spD K F vs H2 Q E0
def dCallE (df : DE) (S : Addr → FD → Prop) (ks : List Nat) (dr : DA) : DE := fun sl M ED Q => df sl M ED fun d M1 => ∃ f F, d = .ref f ∧ S f F ∧ dr sl M1 ED fun ds M2 => (sel ks M2).length = ks.length ∧ F ds (sel ks M2) (fun _ _ _ => False) fun d Mc => Q d (putM ks M2 Mc)
section
variable {X : Cx} {E : L2.St → XK} {K : PySem.W.Frag} {fe a e : Expr} {es : List Expr} {pos p : Pos} {df di : DE} {dr : DA} {S : Addr → FD → Prop} {ks : List Nat} {k : Nat} {tf : TE} {t : TA}
theorem pe_callE (A : ∀ f F, S f F → HeldD X.prog X.w X.K X.mg X.base k f F) (hr : Room k X.A) (hf : PE X fe tf) (ha : PA X (e :: es) t)
    (ht : eval (.Call fe (e :: es) [] pos) X.env = (do callWith pos (← eval fe X.env) [] (backTo pos (starEach (e :: es) X.env)) (backToKw pos (keywordEach [] X.env))) := by rfl)
    (he : starEach (e :: es) X.env = (false, eval e X.env) :: starEach es X.env := by rfl) (hpl : (backTo pos (starEach es X.env)).any (·.1) = false := by rfl) : PE X (.Call fe (e :: es) [] pos) (tCallE X.K tf S t) := by
  refine ⟨fun pins s σ H Q I h => ?_⟩
  refine PyProof.Rows.Call_ (thn (hf.run pins s σ H _ I h) fun u s1 ⟨y, H1, I1, ry, f, F, ey, hS, q⟩ => ?_) ht
  subst ey
  obtain rfl : u = Value.ref f := ry
  obtain ⟨fd, ps, G, hk, hb⟩ := (A f F hS).ex
  refine PySem.W.callWith_K (h₀ := X.base) I1.ok.mod.kin hk (thn (ha.run pos pins s1 σ _ _ I1 q) fun us s2 ⟨vs, H2, I2, r, q⟩ => ⟨I2.kIn, ?_⟩) he hpl
  exact run_fn (dvs := []) G hr hb .nil pass0 I2 r (by rw [List.append_nil]; exact q)
theorem sim_callE (hk : ks.Nodup) (sf : SimE K E tf df) (s : SimA K E t dr) : SimE K E (tCallE K tf S t) (dCallE df S ks dr) := by
  intro S0 sl M σ H Q QD ED k xl hd l
  refine sf S0 sl M σ H _ _ ED k xl hd fun d M1 v H1 m1 x1 r1 q1 => ?_
  obtain ⟨f, F, rfl, hS, q1⟩ := q1
  cases r1
  refine ⟨f, F, rfl, hS, s S0 sl M1 σ H1 _ _ ED (k.ext m1 x1) (xl.ext x1) q1 fun ds M2 vs H2 m2 x2 r2 q2 => ?_⟩
  obtain ⟨hl, q⟩ := q2
  refine ⟨mk0 S0 ks M2, ds, sel ks M2, _, _, m2.sel hk, by rw [mk0_sm]; exact r2, q, fun d M' v H' m' x' pr r' q' => ?_, fun cls fs M' dd H' m' x' pr r' q' => q'.elim⟩
  obtain ⟨g1, g2, g3⟩ := put_back m2 hk hl m' x' pr
  exact l d _ v H' g1 ((x1.trans x2).trans g2) (by rw [g3]; exact r') q'
theorem de_callE (A : ∀ f F, S f F → HeldD X.prog X.w X.K X.mg X.base k f F) (hr : Room k X.A) (hf : DEx X E fe df) (ks : List Nat) (ha : DAx X E (a :: es) dr) (hk : ks.Nodup := by decide)
    (ht : eval (.Call fe (a :: es) [] pos) X.env = (do callWith pos (← eval fe X.env) [] (backTo pos (starEach (a :: es) X.env)) (backToKw pos (keywordEach [] X.env))) := by rfl)
    (he : starEach (a :: es) X.env = (false, eval a X.env) :: starEach es X.env := by rfl) (hpl : (backTo pos (starEach es X.env)).any (·.1) = false := by rfl) : DEx X E (.Call fe (a :: es) [] pos) (dCallE df S ks dr) := by
  obtain ⟨tf, pf, sf⟩ := hf
  obtain ⟨t, pa, s⟩ := ha
  exact ⟨_, pe_callE A hr pf pa ht he hpl, sim_callE hk sf s⟩
theorem DEx.weak {d d' : DE} (h : DEx X E a d) (w : ∀ sl M ED Q, d' sl M ED Q → d sl M ED Q) : DEx X E a d' := by
  obtain ⟨t, p, s⟩ := h
  exact ⟨t, p, fun S0 sl M σ H Q QD ED k xl hd l => s S0 sl M σ H Q QD ED k xl (w _ _ _ _ hd) l⟩
/-- [f, g, h][i](..), i a name -/
def dPick3 (Fa Fb Fc : FD) (ks : List Nat) (i : Nat) (dr : DA) : DE := fun sl M ED Q => ∃ F : FD, ((sl[i]? = some (some (.int 0)) ∧ F = Fa) ∨ (sl[i]? = some (some (.int 1)) ∧ F = Fb) ∨ (sl[i]? = some (some (.int 2)) ∧ F = Fc)) ∧
  dr sl M ED fun ds M2 => (sel ks M2).length = ks.length ∧ F ds (sel ks M2) (fun _ _ _ => False) fun d Mc => Q d (putM ks M2 Mc)
theorem de_pick3 {xa xb xc : Str} {pa pb pc lpos spos : Pos} {psa psb psc : List Str} {Fa Fb Fc : FD} {ie : Expr} {i : Nat} (ca : DefOk X.prog X.w X.K X.mg X.base k xa psa Fa) (cb : DefOk X.prog X.w X.K X.mg X.base k xb psb Fb) (cc : DefOk X.prog X.w X.K X.mg X.base k xc psc Fc)
    (hu : X.A.units + 64 < cLine) (hr : Room k X.A) (hi : DEx X E ie (dVar i)) (ks : List Nat) (ha : DAx X E (a :: es) dr) (hk : ks.Nodup := by decide)
    (ga : Gl X xa := by rfl) (gb : Gl X xb := by rfl) (gc : Gl X xc := by rfl) (da : (xa == ("__debug__" : Str)) = false := by decide) (db : (xb == ("__debug__" : Str)) = false := by decide) (dc : (xc == ("__debug__" : Str)) = false := by decide)
    (hs : PlainIx ie := by exact fun _ _ => rfl)
    (ht : eval (.Call (.Subscript (.List [.Name xa pa, .Name xb pb, .Name xc pc] lpos) ie spos) (a :: es) [] pos) X.env = (do callWith pos (← eval (.Subscript (.List [.Name xa pa, .Name xb pb, .Name xc pc] lpos) ie spos) X.env) [] (backTo pos (starEach (a :: es) X.env)) (backToKw pos (keywordEach [] X.env))) := by rfl)
    (he : starEach (a :: es) X.env = (false, eval a X.env) :: starEach es X.env := by rfl) (hpl : (backTo pos (starEach es X.env)).any (·.1) = false := by rfl) :
    DEx X E (.Call (.Subscript (.List [.Name xa pa, .Name xb pb, .Name xc pc] lpos) ie spos) (a :: es) [] pos) (dPick3 Fa Fb Fc ks i dr) := by
  obtain ⟨fa, fda, ma, ka, ba, Ga⟩ := ca
  obtain ⟨fb, fdb, mb, kb, bb, Gb⟩ := cb
  obtain ⟨fc, fdc, mc, kc, bc, Gc⟩ := cc
  refine (de_callE (S := fun f F => (f = fa ∧ F = Fa) ∨ (f = fb ∧ F = Fb) ∨ (f = fc ∧ F = Fc)) (fun f F h => ?_) hr
    (de_ix hu (de_lst false (da_cons (de_glob (v := .ref fa) (d := .ref fa) ga ma rfl (fun _ _ => .ref _) da) (da_cons (de_glob (v := .ref fb) (d := .ref fb) gb mb rfl (fun _ _ => .ref _) db) (da_cons (de_glob (v := .ref fc) (d := .ref fc) gc mc rfl (fun _ _ => .ref _) dc) da_nil)))) hi hs) ks ha hk ht he hpl).weak ?_
  · rcases h with ⟨rfl, rfl⟩ | ⟨rfl, rfl⟩ | ⟨rfl, rfl⟩
    · exact ⟨_, _, Ga, ka, ba⟩
    · exact ⟨_, _, Gb, kb, bb⟩
    · exact ⟨_, _, Gc, kc, bc⟩
  · rintro sl M ED Q ⟨F, h, q⟩
    have h3 : (3 : Nat) ≤ sizeLine := by decide
    rcases h with ⟨e, rfl⟩ | ⟨e, rfl⟩ | ⟨e, rfl⟩
    · exact ⟨h3, _, e, _, atI_nat (j := 0) rfl, _, _, rfl, .inl ⟨rfl, rfl⟩, q⟩
    · exact ⟨h3, _, e, _, atI_nat (j := 1) rfl, _, _, rfl, .inr (.inl ⟨rfl, rfl⟩), q⟩
    · exact ⟨h3, _, e, _, atI_nat (j := 2) rfl, _, _, rfl, .inr (.inr ⟨rfl, rfl⟩), q⟩
end
end OD

/-! LPot: the pot of draws. -/
namespace Once
open PySem PySem.Spec L2 OD
theorem small1 (n : Nat) (h : n ≤ 1000) : n ≤ sizeLine := Nat.le_of_lt (small1000 h)
theorem at0 {x : D} {r : List D} : atI (x :: r) 0 = some x := atI_nat (j := 0) rfl
theorem ixN_nat {n j : Nat} (h : j < n) : ixN n (j : Int) = some j := by
  unfold ixN
  rw [if_pos (Int.natCast_nonneg j), if_pos (by omega), Int.toNat_natCast]
theorem ix0 {x : D} {r : List D} : ixN (x :: r).length 0 = some 0 := ixN_nat (j := 0) (by simp)
theorem seq0 {x : D} {r : List D} : seqIndex? 0 (x :: r).length = some 0 := (ixN_seq ix0).1
structure PotC where
  gs : List Int
  ss : List Int
  t : Int
  w : Int
def potM (p g s : Addr) (c : PotC) : Mem := [(g, .lst (c.gs.map .int)), (s, .lst (c.ss.map .int)), (p, .lst [.ref g, .ref s, .int c.t, .int c.w])]
def fd_law_draw : FD := fun ds M _ Q => ∃ (p g s : Addr) (c : PotC) (n : Int), ds = [.ref p, .int n] ∧ M = potM p g s c ∧ c.ss ≠ [] ∧ 0 < n ∧ n.natAbs.log2 < 9000 ∧
  ∀ (r : Int) (c' : PotC), 0 ≤ r → r < n → c'.ss ≠ [] → Q (.int r) (potM p g s c')
theorem len_law_draw : ∀ ds M ED QD, fd_law_draw ds M ED QD → ds.length = 2 := fun ds M ED QD ⟨p, g, s, c, n, e, _⟩ => by rw [e]; rfl
def td_law_draw : DS :=
  (dSeq (dAsg (dOp ixD (dVar 0) (dC (.int 2))) (dName 2))
  (dSeq (dSetIx (dOp (addD false) (dVar 2) (dC (.int 1))) (dVar 0) (dC (.int 2)))
  (dSeq (dIfS (dTest (dOp gtD (dCB lenD (dCons (dOp ixD (dVar 0) (dC (.int 0))) dNil)) (dC (.int 0)))) (dSeq (dAsg (dOp ixD (dOp ixD (dVar 0) (dC (.int 0))) (dC (.int 0))) (dName 4))
  (dSeq (dSetIx (dOp divD (dVar 4) (dVar 1)) (dOp ixD (dVar 0) (dC (.int 0))) (dC (.int 0)))
  (dSeq (dIfS (dTest (dOp ltD (dVar 4) (dVar 1))) (dDrop (dMth popAtF (dOp ixD (dVar 0) (dC (.int 0))) (dCons (dC (.int 0)) dNil))) dNext)
  (dRet false (dOp modD (dCB intD (dCons (dVar 4) dNil)) (dVar 1)))))) dNext)
  (dSeq (dAsg (dOp (addD false) (dOp (addD false) (dOp (mulD false) (dOp ixD (dOp ixD (dVar 0) (dC (.int 1))) (dOp modD (dCB intD (dCons (dVar 2) dNil)) (dCB lenD (dCons (dOp ixD (dVar 0) (dC (.int 1))) dNil)))) (dC (.int 7919))) (dOp (mulD false) (dC (.int 104729)) (dVar 2))) (dOp (mulD false) (dOp ixD (dVar 0) (dC (.int 3))) (dC (.int 31)))) (dName 3))
  (dSeq (dAsg (dOp modD (dCB intD (dCons (dOp (addD false) (dOp (mulD false) (dVar 3) (dC (.int 48271))) (dC (.int 11))) dNil)) (dC (.int 2147483647))) (dName 4))
  (dSeq (dAsg (dOp modD (dCB intD (dCons (dOp (mulD false) (dVar 4) (dOp (addD false) (dOp divD (dVar 4) (dC (.int 1009))) (dC (.int 69621)))) dNil)) (dC (.int 2147483629))) (dName 4))
  (dSeq (dAsg (dOp modD (dCB intD (dCons (dOp (addD false) (dOp (mulD false) (dVar 4) (dOp (addD false) (dOp divD (dVar 4) (dC (.int 2003))) (dC (.int 40692)))) (dVar 2)) dNil)) (dC (.int 2147483399))) (dName 4))
  (dRet false (dOp modD (dCB intD (dCons (dOp divD (dVar 4) (dC (.int 64))) dNil)) (dVar 1))))))))))
theorem rd_law_draw : ∀ ds M ED QD, fd_law_draw ds M ED QD → td_law_draw (outs M QD) (startD ["_law_pot_here", "_law_limit", "_law_turn", "_law_seed", "_law_number"] ds) M := by
  rintro ds M ED QD ⟨p, g, s, ⟨gs, ss, t, w⟩, n, rfl, rfl, hs, hn, hl, h⟩
  -- turn = pot[2]; pot[2] = turn + 1; if len(pot[0]) > 0
  refine ⟨_, rfl, 2, _, rfl, _, rfl, ?_⟩
  refine ⟨_, rfl, _, rfl, 2, _, rfl, 2, rfl, ?_⟩
  refine ⟨_, rfl, 2, _, rfl, _, rfl, 0, _, rfl, _, rfl, ite2 (fun e => ?_) (fun e => ?_)⟩
  · cases gs with
    | nil => exact absurd e (by simp)
    | cons x r =>
      -- number = pot[0][0]; pot[0][0] = number // limit; if number < limit: pot[0].pop(0); return int(number) % limit
      refine ⟨_, rfl, 2, _, rfl, _, rfl, 0, _, rfl, _, at0, ?_⟩
      refine ⟨_, rfl, _, rfl, ⟨hn, hl⟩, _, rfl, 2, _, rfl, _, rfl, 0, _, rfl, 0, ix0, ?_⟩
      have p0 : 0 ≤ x % n := Int.emod_nonneg _ (by omega)
      have p1 : x % n < n := Int.emod_lt_of_pos _ hn
      refine ⟨_, rfl, _, rfl, _, rfl, ite2 (fun e2 => ?_) (fun e2 => ?_)⟩
      · refine ⟨_, rfl, 2, _, rfl, _, rfl, ⟨0, _, rfl⟩, 0, _, rfl, by decide, by decide, 0, _, seq0, rfl, ?_⟩
        exact ⟨_, rfl, _, rfl, hn, .all rfl (h _ ⟨r, ss, t + 1, w⟩ p0 p1 hs)⟩
      · exact ⟨_, rfl, _, rfl, hn, .all rfl (h _ ⟨x / n :: r, ss, t + 1, w⟩ p0 p1 hs)⟩
  · -- seed = ..; number = .. (thrice); return ..
    have hl0 : 0 < (ss.length : Int) := by
      cases ss with
      | nil => exact absurd rfl hs
      | cons _ _ => simp
    have q0 : 0 ≤ t % (ss.length : Int) := Int.emod_nonneg _ (by omega)
    have q1 : t % (ss.length : Int) < ss.length := Int.emod_lt_of_pos _ hl0
    obtain ⟨j, hj⟩ : ∃ j : Nat, t % (ss.length : Int) = j := ⟨(t % (ss.length : Int)).toNat, by omega⟩
    have hjl : j < ss.length := by omega
    have hget : atI (ss.map D.int) (t % ((ss.map D.int).length : Int)) = some (D.int ss[j]) := by
      rw [List.length_map, hj]
      refine atI_nat ?_
      rw [List.getElem?_map, List.getElem?_eq_getElem hjl]
      rfl
    have md : ∀ i : Int, MulOk i 7919 ∧ MulOk 104729 i ∧ MulOk i 31 ∧ MulOk i 48271 := fun i =>
      ⟨.inl (.inr ⟨by decide, by decide⟩), .inl (.inl ⟨by decide, by decide⟩), .inl (.inr ⟨by decide, by decide⟩), .inl (.inr ⟨by decide, by decide⟩)⟩
    refine ⟨_, rfl, 2, _, rfl, _, rfl, _, rfl, _, rfl, 2, _, rfl, _, rfl, 1, _, rfl, by show 0 < (((ss.map D.int).length : Nat) : Int); rw [List.length_map]; exact hl0, 1, _, rfl, _, hget, (md _).1, _, rfl, (md _).2.1, _, rfl, 2, _, rfl, _, rfl, (md _).2.2.1, ?_⟩
    refine ⟨_, rfl, (md _).2.2.2, by decide, ?_⟩
    generalize h1 : (ss[j] * 7919 + 104729 * t + w * 31) * 48271 + 11 = n1
    have a0 : 0 ≤ n1 % 2147483647 := Int.emod_nonneg _ (by decide)
    have a1 : n1 % 2147483647 < 2147483647 := Int.emod_lt_of_pos _ (by decide)
    refine ⟨_, rfl, _, rfl, ⟨by decide, by decide⟩, .inl (.inl ⟨by show -(2 ^ 64) < n1 % 2147483647; omega, by show n1 % 2147483647 < 2 ^ 64; omega⟩), by decide, ?_⟩
    generalize h2 : n1 % 2147483647 * (n1 % 2147483647 / 1009 + 69621) = n2
    have b0 : 0 ≤ n2 % 2147483629 := Int.emod_nonneg _ (by decide)
    have b1 : n2 % 2147483629 < 2147483629 := Int.emod_lt_of_pos _ (by decide)
    refine ⟨_, rfl, _, rfl, ⟨by decide, by decide⟩, .inl (.inl ⟨by show -(2 ^ 64) < n2 % 2147483629; omega, by show n2 % 2147483629 < 2 ^ 64; omega⟩), _, rfl, by decide, ?_⟩
    refine ⟨_, rfl, ⟨by decide, by decide⟩, _, rfl, hn, ?_⟩
    exact .all rfl (h _ ⟨gs, ss, t + 1, w⟩ (Int.emod_nonneg _ (by omega)) (Int.emod_lt_of_pos _ hn) hs)
/-! the pot of a script -/
def fd_law_pot : FD := fun ds M _ Q => ∃ ns : List Int, ds = [.scr ns] ∧ M = [] ∧ ns.length ≤ 63 ∧ ∀ (p g s : Addr) (c : PotC), c.ss ≠ [] → Q (.ref p) (potM p g s c)
theorem len_law_pot : ∀ ds M ED QD, fd_law_pot ds M ED QD → ds.length = 1 := fun ds M ED QD ⟨ns, e, _⟩ => by rw [e]; rfl
def td_law_pot : DS :=
  (dSeq (dAsg (dLc false (diSeq (dSl false (dVar 0) dNoPart (dPart (dC (.int 63))))) [4] (dName 4) dYes (dCB intD (dCons (dVar 4) dNil))) (dName 1))
  (dSeq (dAsg (dLc true (diSeq (dVar 1)) [4] (dName 4) (dTest (dOp geD (dCB absD (dCons (dVar 4) dNil)) (dOp powD (dC (.int 10)) (dC (.int 18))))) (dCB absD (dCons (dVar 4) dNil))) (dName 2))
  (dSeq (dAsg (dOp (addD true) (dLc false (diSeq (dVar 1)) [4] (dName 4) (dTest (dOp ltD (dCB absD (dCons (dVar 4) dNil)) (dOp powD (dC (.int 10)) (dC (.int 18))))) (dOp modD (dCB intD (dCons (dVar 4) dNil)) (dC (.int 1000000007)))) (dLst false (dCons (dOp (addD false) (dCB lenD (dCons (dVar 1) dNil)) (dC (.int 1))) dNil))) (dName 3))
  (dRet false (dLst true (dCons (dVar 2) (dCons (dVar 3) (dCons (dC (.int 0)) (dCons (dOp modD (dCB intD (dCons (dCB sumD (dCons (dVar 3) dNil)) dNil)) (dC (.int 999983))) dNil)))))))))
/-- a comprehension over an immutable list of ints: of those that are wanted f -/
theorem lc_ints {o : Bool} {sl : Slots} {M : Mem} {ED : XD} {Q : DK} {da : DE} {i : Nat} {tt : DT} {te : DE} {ns : List Int} (p : Int → Bool) (f : Int → Int)
    (hd : ∀ RD : Itm → Mem → Prop, RD (itSeq (ns.map .int) fun _ => True) M → diSeq da sl M ED RD) (hz : ns.length ≤ 1000)
    (ht : ∀ (x : Int) (Q : Bool → Mem → Prop), Q (p x) M → tt ((wipeD sl [i]).set i (some (.int x))) M NoX Q)
    (he : ∀ (x : Int) (Q : DK), Q (.int (f x)) M → te ((wipeD sl [i]).set i (some (.int x))) M NoX Q)
    (hq : al o (.lst (((ns.filter p).map f).map .int)) M Q) : dLc o (diSeq da) [i] (dName i) tt te sl M ED Q := by
  refine hd _ ⟨fun j acc M' => M' = M ∧ acc = (((ns.take j).filter p).map f).map .int, ⟨rfl, rfl⟩, fun _ _ _ _ _ => trivial, fun j acc M' hj h => ?_, fun acc M' h => ?_⟩
  · obtain ⟨rfl, rfl⟩ := h
    have hj' : j < ns.length := by simpa [itSeq] using hj
    have e : (itSeq (ns.map D.int) fun _ => True).at_ j = .int ns[j] := by
      show ((ns.map D.int)[j]?).getD .non = _
      rw [List.getElem?_map, List.getElem?_eq_getElem hj']
      rfl
    have tk : ns.take (j + 1) = ns.take j ++ [ns[j]] := by rw [List.take_add_one, List.getElem?_eq_getElem hj']; rfl
    rw [e]
    refine ht _ _ ?_
    cases hp : p ns[j] with
    | true =>
      refine iteT (he _ _ ⟨?_, rfl, ?_⟩)
      · have h1 : ((ns.take j).filter p).length ≤ (ns.take j).length := List.length_filter_le _ _
        have h2 : (ns.take j).length ≤ ns.length := by rw [List.length_take]; omega
        rw [List.length_map, List.length_map]
        exact small1000 (by omega)
      · rw [tk, List.filter_append, List.map_append, List.map_append, List.filter_cons_of_pos hp]
        rfl
    | false =>
      refine iteF ⟨rfl, ?_⟩
      rw [tk, List.filter_append, List.filter_cons_of_neg (by rw [hp]; exact Bool.false_ne_true)]
      simp
  · obtain ⟨rfl, rfl⟩ := h
    have e : (itSeq (ns.map D.int) fun _ => True).n = ns.length := by show (ns.map D.int).length = _; rw [List.length_map]
    rw [e, List.take_length]
    exact hq
theorem al_f {n : N} {M : Mem} {Q : DK} (h : Q n.toD M) : al false n M Q := h
theorem st_lc {o : Bool} {sl : Slots} {M : Mem} {da : DE} {i t : Nat} {tt : DT} {te : DE} {ns : List Int} {rest : DS} {Dd : DEnds} (p : Int → Bool) (f : Int → Int)
    (hd : ∀ RD : Itm → Mem → Prop, RD (itSeq (ns.map .int) fun _ => True) M → diSeq da sl M (Dd.ex sl) RD) (hz : ns.length ≤ 1000)
    (ht : ∀ (x : Int) (Q : Bool → Mem → Prop), Q (p x) M → tt ((wipeD sl [i]).set i (some (.int x))) M NoX Q)
    (he : ∀ (x : Int) (Q : DK), Q (.int (f x)) M → te ((wipeD sl [i]).set i (some (.int x))) M NoX Q)
    (hq : al o (.lst (((ns.filter p).map f).map .int)) M fun d M1 => rest Dd (sl.set t (some d)) M1) : dSeq (dAsg (dLc o (diSeq da) [i] (dName i) tt te) (dName t)) rest Dd sl M :=
  lc_ints p f hd hz ht he hq
theorem rd_law_pot : ∀ ds M ED QD, fd_law_pot ds M ED QD → td_law_pot (outs M QD) (startD ["_law_script", "_law_cells", "_law_greats", "_law_smalls", "_law_item"] ds) M := by
  rintro ds M ED QD ⟨ns, rfl, rfl, hn, h⟩
  -- cells
  have hc : (cutL ns none (some 63)) = ns := by
    unfold cutL
    rw [HT.sIx_none, show HT.sIx ns.length ns.length (some 63) = min 63 ns.length from HT.sIx_nat _ _ 63]
    rw [List.drop_zero, List.take_of_length_le (by omega)]
  refine st_lc (ns := ns) (fun _ => true) id ?_ (by omega) ?_ ?_ ?_
  · intro RD hr
    refine ⟨_, rfl, _, rfl, ?_⟩
    show RD (itSeq ((cutL ns none (some 63)).map .int) _) _
    rw [hc]
    exact hr
  · exact fun x Q q => q
  · exact fun x Q q => ⟨_, rfl, q⟩
  have e1 : ((ns.filter fun _ => true).map id) = ns := by simp
  rw [e1]
  -- greats
  refine al_f ?_
  refine st_lc (ns := ns) (fun x => decide (10 ^ 18 ≤ (if x < 0 then -x else x))) (fun x => if x < 0 then -x else x) ?_ (by omega) ?_ ?_ ?_
  · exact fun RD hr => ⟨_, rfl, hr⟩
  · exact fun x Q q => ⟨_, rfl, ⟨by decide, by decide, by decide⟩, _, rfl, q⟩
  · exact fun x Q q => ⟨_, rfl, q⟩
  intro g hg
  -- smalls
  refine lc_ints (ns := ns) (fun x => decide ((if x < 0 then -x else x) < 10 ^ 18)) (fun x => x % 1000000007) ?_ (by omega) ?_ ?_ ?_
  · exact fun RD hr => ⟨_, rfl, hr⟩
  · exact fun x Q q => ⟨_, rfl, ⟨by decide, by decide, by decide⟩, _, rfl, q⟩
  · exact fun x Q q => ⟨_, rfl, by decide, q⟩
  have hz : ∀ l : List Int, (l.map D.int).length = l.length := fun l => List.length_map _
  generalize hA : ((ns.filter fun x => decide ((if x < 0 then -x else x) < 10 ^ 18)).map fun x => x % 1000000007) = A
  have hAl : A.length ≤ 63 := by
    rw [← hA, List.length_map]
    exact Nat.le_trans (List.length_filter_le _ _) hn
  refine ⟨_, rfl, small1 1 (by decide), ?_, ?_⟩
  · show (A.map D.int).length + 1 ≤ sizeLine
    rw [hz]
    exact small1 _ (by omega)
  intro s hs
  have hB : A.map D.int ++ [D.int (((ns.map D.int).length : Int) + 1)] = (A ++ [((ns.map D.int).length : Int) + 1]).map D.int := by rw [List.map_append]; rfl
  refine ⟨_, rfl, _, rfl, _, rfl, 1, _, rfl, _, hB, by decide, small1 4 (by decide), fun p hp => ?_⟩
  refine .all rfl ?_
  rw [hB]
  exact h p g s ⟨(ns.filter fun x => decide (10 ^ 18 ≤ (if x < 0 then -x else x))).map fun x => if x < 0 then -x else x, A ++ [((ns.map D.int).length : Int) + 1], 0, (A ++ [((ns.map D.int).length : Int) + 1]).sum % 999983⟩ (by simp)
end Once

/-! LUt: lists of ints as data; ranges; comprehensions. -/
namespace Once
open PySem PySem.Spec L2 OD
theorem vw_imp {M : Mem} {h : D} {P P' : D → Prop} (v : vw M h P) (f : ∀ d, P d → P' d) : vw M h P' := by
  unfold vw at *
  cases h with
  | ref p => obtain ⟨k, n, e, q⟩ := v; exact ⟨k, n, e, f _ q⟩
  | _ => exact f _ v
abbrev li (xs : List Int) : D := .lst (xs.map .int)
abbrev lli (hs : List (List Int)) : D := .lst (hs.map li)
theorem atI_i {xs : List Int} {i : Int} (j : Nat) (e : i = j) (h : j < xs.length) : atI (xs.map D.int) i = some (.int (xs.getD j 0)) := by
  subst e
  refine atI_nat ?_
  rw [List.getElem?_map, List.getD_eq_getElem?_getD, List.getElem?_eq_getElem h]
  rfl
theorem atI_l {hs : List (List Int)} {i : Int} (j : Nat) (e : i = j) (h : j < hs.length) : atI (hs.map li) i = some (li (hs.getD j [])) := by
  subst e
  refine atI_nat ?_
  rw [List.getElem?_map, List.getD_eq_getElem?_getD, List.getElem?_eq_getElem h]
  rfl
/-- a comprehension: one thing for each that is wanted -/
theorem lc_map {o : Bool} {sl : Slots} {M : Mem} {ED : XD} {Q : DK} {di : DI} {i : Nat} {tt : DT} {te : DE} (it : Itm) (p : Nat → Bool) (f : Nat → D)
    (hd : ∀ RD : Itm → Mem → Prop, RD it M → di sl M ED RD) (hg : it.gd M) (hz : it.n ≤ 1000)
    (ht : ∀ j, j < it.n → ∀ Q : Bool → Mem → Prop, Q (p j) M → tt ((wipeD sl [i]).set i (some (it.at_ j))) M NoX Q)
    (he : ∀ j, j < it.n → p j = true → ∀ Q : DK, Q (f j) M → te ((wipeD sl [i]).set i (some (it.at_ j))) M NoX Q)
    (hq : al o (.lst (((List.range it.n).filter p).map f)) M Q) : dLc o di [i] (dName i) tt te sl M ED Q := by
  refine hd _ ⟨fun j acc M' => M' = M ∧ acc = ((List.range j).filter p).map f, ⟨rfl, rfl⟩, fun _ _ _ _ h => by rw [h.1]; exact hg, fun j acc M' hj h => ?_, fun acc M' h => ?_⟩
  · obtain ⟨rfl, rfl⟩ := h
    refine ht j hj _ ?_
    cases hp : p j with
    | true =>
      refine iteT (he j hj hp _ ⟨?_, rfl, ?_⟩)
      · have h1 : ((List.range j).filter p).length ≤ (List.range j).length := List.length_filter_le _ _
        rw [List.length_range] at h1
        rw [List.length_map]
        exact small1000 (by omega)
      · rw [List.range_succ, List.filter_append, List.map_append, List.filter_cons_of_pos hp]
        rfl
    | false =>
      refine iteF ⟨rfl, ?_⟩
      rw [List.range_succ, List.filter_append, List.filter_cons_of_neg (by rw [hp]; exact Bool.false_ne_true)]
      simp
  · obtain ⟨rfl, rfl⟩ := h
    exact hq
theorem filter_all {α : Type} (l : List α) : (l.filter fun _ => true) = l := by simp
/-- a comprehension of ints over a range, with no condition -/
theorem lc_rng {sl : Slots} {M : Mem} {ED : XD} {Q : DK} {di : DI} {i : Nat} {te : DE} (lo c : Int) (n : Nat) (f : Nat → Int)
    (hd : ∀ RD : Itm → Mem → Prop, RD (itRange lo c n) M → di sl M ED RD) (hz : n ≤ 1000)
    (he : ∀ j, j < n → ∀ Q : DK, Q (.int (f j)) M → te ((wipeD sl [i]).set i (some (.int (lo + (j : Nat) * c)))) M NoX Q)
    (hq : Q (li ((List.range n).map f)) M) : dLc false di [i] (dName i) dYes te sl M ED Q := by
  refine lc_map (itRange lo c n) (fun _ => true) (fun j => .int (f j)) hd trivial hz (fun j hj Q q => q) (fun j hj _ Q q => he j hj Q q) ?_
  rw [filter_all]
  show Q (.lst ((List.range n).map fun j => D.int (f j))) M
  have e : (List.range n).map (fun j => D.int (f j)) = ((List.range n).map f).map .int := by rw [List.map_map]; rfl
  rw [e]
  exact hq
/-- a loop over a range -/
theorem for_rng {di : DI} {i : Nat} {tb : DS} {Dd : DEnds} {sl : Slots} {M : Mem} (lo c : Int) (n : Nat) (W : Nat → Slots → Mem → Prop) (hd : ∀ RD : Itm → Mem → Prop, RD (itRange lo c n) M → di sl M (Dd.ex sl) RD) (w0 : W 0 sl M)
    (hs : ∀ j sl M, j < n → W j sl M → tb { Dd with nx := W (j + 1), ct := W (j + 1), bk := Dd.nx } (sl.set i (some (.int (lo + (j : Nat) * c)))) M)
    (hq : ∀ sl M, W n sl M → Dd.nx sl M) : dFor di (dName i) tb Dd sl M :=
  hd _ ⟨W, w0, fun _ _ _ _ _ => trivial, hs, hq⟩
theorem rg2 {i j : Int} (h : -(2 ^ 62) ≤ i := by omega) (h2 : i < 2 ^ 62 := by omega) (h3 : -(2 ^ 62) ≤ j := by omega) (h4 : j < 2 ^ 62 := by omega) : -(2 ^ 62) ≤ i ∧ i < 2 ^ 62 ∧ -(2 ^ 62) ≤ j ∧ j < 2 ^ 62 := ⟨h, h2, h3, h4⟩
theorem sum_range_succ (f : Nat → Int) (n : Nat) : ((List.range (n + 1)).map f).sum = ((List.range n).map f).sum + f n := by
  rw [List.range_succ, List.map_append, List.sum_append]
  simp
theorem mul_big {i j : Int} (h : i.natAbs.log2 < 100000) (h2 : j.natAbs.log2 < 100000) : MulOk i j := .inr (by unfold CMulW; omega)
end Once

/-! L46a: small defs, pairs. -/
namespace Once
open PySem PySem.Spec L2 OD
theorem Pre.refl (M : Mem) : Pre M M := by unfold Pre; rw [List.take_length]
def fd_is_integer : FD := fun ds M _ Q => ∃ i : Int, ds = [.int i] ∧ M = [] ∧ Q (.bl true) []
theorem len_is_integer : ∀ ds M ED QD, fd_is_integer ds M ED QD → ds.length = 1 := fun ds M ED QD ⟨ns, e, _⟩ => by rw [e]; rfl
def td_is_integer : DS :=
  (dRet false (dAndV (dCB isiD (dCons (dVar 0) (dCons (dC (.ty "int")) dNil))) (dNotV (dCB isiD (dCons (dVar 0) (dCons (dC (.ty "bool")) dNil))))))
theorem rd_is_integer : ∀ ds M ED QD, fd_is_integer ds M ED QD → td_is_integer (outs M QD) (startD ["thing"] ds) M := by
  rintro ds M ED QD ⟨i, rfl, rfl, h⟩
  refine ⟨_, rfl, "int", true, rfl, (by decide +kernel), true, rfl, ?_⟩
  exact iteT ⟨_, rfl, "int", false, rfl, (by decide +kernel), false, rfl, .none h⟩
theorem iteC {c : Bool} {A B : Prop} (e : c = true) (h : A) : if c = true then A else B := by rw [if_pos e]; exact h
theorem iteD {c : Bool} {A B : Prop} (e : c = false) (h : B) : if c = true then A else B := by rw [if_neg (by rw [e]; exact Bool.false_ne_true)]; exact h
def fd_is_within : FD := fun ds M _ Q => ∃ i a b : Int, ds = [.int i, .int a, .int b] ∧ M = [] ∧ a ≤ i ∧ i ≤ b ∧ Q (.bl true) []
theorem len_is_within : ∀ ds M ED QD, fd_is_within ds M ED QD → ds.length = 3 := fun ds M ED QD ⟨_, _, _, e, _⟩ => by rw [e]; rfl
def td_is_within : DS :=
  (dRet false (dAndV (dCall0 fd_is_integer [] (dCons (dVar 0) dNil)) (dChain leD leD (dVar 1) (dVar 0) (dVar 2))))
theorem rd_is_within : ∀ ds M ED QD, fd_is_within ds M ED QD → td_is_within (outs M QD) (startD ["thing", "least", "most"] ds) M := by
  rintro ds M ED QD ⟨i, a, b, rfl, rfl, h1, h2, h⟩
  refine ⟨_, rfl, rfl, i, rfl, rfl, true, rfl, iteT ⟨_, rfl, _, rfl, _, rfl, ?_⟩⟩
  refine iteC (decide_eq_true h1) ⟨_, rfl, ?_⟩
  show Out [] QD (.bl (decide (i ≤ b))) _
  rw [decide_eq_true h2]
  exact .none h
def fd_check_number : FD := fun ds M _ Q => ∃ i a b : Int, ds = [.int i, .int a, .int b] ∧ M = [] ∧ a ≤ i ∧ i ≤ b ∧ Q .non []
theorem len_check_number : ∀ ds M ED QD, fd_check_number ds M ED QD → ds.length = 3 := fun ds M ED QD ⟨_, _, _, e, _⟩ => by rw [e]; rfl
def td_check_number : DS :=
  (dIfS (dNot (dTru (dCall0 fd_is_within [] (dCons (dVar 0) (dCons (dVar 1) (dCons (dVar 2) dNil)))))) dNever dNext)
theorem rd_check_number : ∀ ds M ED QD, fd_check_number ds M ED QD → td_check_number (outs M QD) (startD ["thing", "least", "most"] ds) M := by
  rintro ds M ED QD ⟨i, a, b, rfl, rfl, h1, h2, h⟩
  refine ⟨_, rfl, _, rfl, _, rfl, rfl, i, a, b, rfl, rfl, h1, h2, ?_⟩
  exact Out.none h
def fac : Nat → Nat
  | 0 => 1
  | n + 1 => fac n * (n + 1)
def fd_factorial_of : FD := fun ds M _ Q => ∃ n : Nat, ds = [.int n] ∧ M = [] ∧ n ≤ 1000 ∧ Q (.int (fac n)) []
theorem len_factorial_of : ∀ ds M ED QD, fd_factorial_of ds M ED QD → ds.length = 1 := fun ds M ED QD ⟨_, e, _⟩ => by rw [e]; rfl
def td_factorial_of : DS :=
  (dSeq (dAsg (dC (.int 1)) (dName 1))
  (dSeq (dFor (diRange2 (dCons (dC (.int 2)) (dCons (dOp (addD false) (dVar 0) (dC (.int 1))) dNil))) (dName 2) (dAsg (dOp (mulD false) (dVar 1) (dVar 2)) (dName 1)))
  (dRet false (dVar 1))))
theorem rd_factorial_of : ∀ ds M ED QD, fd_factorial_of ds M ED QD → td_factorial_of (outs M QD) (startD ["number", "found", "factor"] ds) M := by
  rintro ds M ED QD ⟨n, rfl, rfl, hn, h⟩
  refine ⟨_, rfl, 2, (n : Int) + 1, rfl, rg2, fun j sl M => M = [] ∧ ∃ r, sl = [some (.int n), some (.int (fac (j + 1))), r], ⟨rfl, _, rfl⟩, fun _ _ _ _ _ => trivial, ?_, ?_⟩
  · rintro j sl M hj ⟨rfl, r, rfl⟩
    replace hj : j < (n + 1 - 2 : Int).toNat := hj
    refine ⟨_, rfl, _, rfl, .inl (.inr ⟨by omega, by omega⟩), rfl, some (.int (2 + (j : Nat) * 1)), ?_⟩
    have e : ((fac (j + 1) : Nat) : Int) * (2 + (j : Nat) * 1) = ((fac (j + 1 + 1) : Nat) : Int) := by
      show _ = ((fac (j + 1) * (j + 1 + 1) : Nat) : Int)
      rw [Int.natCast_mul]
      congr 1
      omega
    show [some (D.int n), some (D.int (((fac (j + 1) : Nat) : Int) * (2 + (j : Nat) * 1))), some (D.int (2 + (j : Nat) * 1))] = _
    rw [e]
  · rintro sl M ⟨rfl, r, rfl⟩
    refine ⟨_, rfl, .none ?_⟩
    have e : fac ((n + 1 - 2 : Int).toNat + 1) = fac n := by
      cases n with
      | zero => rfl
      | succ n => congr 1; omega
    show QD (.int (fac ((n + 1 - 2 : Int).toNat + 1) : Nat)) []
    rw [e]
    exact h
/-! pairs -/
def pT (hs rs : List (List Int)) (size names j : Nat) : Int :=
  ((List.range (min names (j + 1) + 1 - (names + j - size))).map fun t => (hs.getD j []).getD (names + j - size + t) 0 * (rs.getD (size - 1 - j) []).getD (names - (names + j - size + t)) 0).sum
def accM (f : Nat → Int) : Nat → Int
  | 0 => 0
  | n + 1 => accM f n + f n
def pairsM (hs rs : List (List Int)) (size names : Nat) : Int := accM (pT hs rs size names) size
/-- each row has three numbers more than rows stand before it, none of them too great -/
structure RowsOk (hs : List (List Int)) : Prop where
  len : ∀ j, j < hs.length → (hs.getD j []).length = j + 3
  small : ∀ i k, ((hs.getD i []).getD k 0).natAbs.log2 < 1000
def lowM (size names : Int) (j : Nat) : Int := if names - size + (0 + (j : Nat) * 1) > 0 then names - size + (0 + (j : Nat) * 1) else 0
def topM (names : Int) (j : Nat) : Int := (if (0 + (j : Nat) * 1 : Int) + 1 < names then (0 + (j : Nat) * 1 : Int) + 1 else names) + 1
theorem lowM_eq (size names j : Nat) : lowM size names j = ((names + j - size : Nat) : Int) := by unfold lowM; split <;> omega
theorem topM_eq (names j : Nat) : topM names j = ((min names (j + 1) + 1 : Nat) : Int) := by unfold topM; split <;> omega
def fd_pairs : FD := fun ds M _ Q => ∃ (h r : Addr) (kh kr : Nat) (hs rs : List (List Int)) (size names : Nat), ds = [.ref h, .ref r, .int size, .int names] ∧ M[kh]? = some (h, .lst (hs.map li)) ∧ M[kr]? = some (r, .lst (rs.map li)) ∧ RowsOk hs ∧ RowsOk rs ∧ size ≤ hs.length ∧ size ≤ rs.length ∧ size ≤ 40 ∧ names ≤ size + 1 ∧
  Q (.int (pairsM hs rs size names)) M
theorem len_pairs : ∀ ds M ED QD, fd_pairs ds M ED QD → ds.length = 4 := fun ds M ED QD ⟨_, _, _, _, _, _, _, _, e, _⟩ => by rw [e]; rfl
def td_pairs : DS :=
  (dSeq (dAsg (dC (.int 0)) (dName 4))
  (dSeq (dFor (diRange1 (dCons (dVar 2) dNil)) (dName 5) (dSeq (dAsg (dOp ixD (dVar 0) (dVar 5)) (dName 6))
  (dSeq (dAsg (dOp ixD (dVar 1) (dOp subD (dOp subD (dVar 2) (dC (.int 1))) (dVar 5))) (dName 7))
  (dSeq (dAsg (dCB max2D (dCons (dC (.int 0)) (dCons (dOp (addD false) (dOp subD (dVar 3) (dVar 2)) (dVar 5)) dNil))) (dName 8))
  (dAug 4 iaddD (dCB sumD (dCons (dLc false (diRange2 (dCons (dVar 8) (dCons (dOp (addD false) (dCB min2D (dCons (dVar 3) (dCons (dOp (addD false) (dVar 5) (dC (.int 1))) dNil))) (dC (.int 1))) dNil))) [9] (dName 9) dYes (dOp (mulD false) (dOp ixD (dVar 6) (dVar 9)) (dOp ixD (dVar 7) (dOp subD (dVar 3) (dVar 9))))) dNil)))))))
  (dRet false (dVar 4))))
theorem rd_pairs : ∀ ds M ED QD, fd_pairs ds M ED QD → td_pairs (outs M QD) (startD ["heads", "rows", "size", "names", "found", "first", "left", "right", "low", "few"] ds) M := by
  rintro ds M ED QD ⟨h, r, kh, kr, hs, rs, size, names, rfl, hh, hr, oh, or, lh, lr, ls, ln, hq⟩
  refine ⟨_, rfl, size, rfl, by omega, by omega, fun j sl M' => M' = M ∧ ∃ a b c d e, sl = [some (.ref h), some (.ref r), some (.int size), some (.int names), some (.int (accM (pT hs rs size names) j)), a, b, c, d, e], ⟨rfl, _, _, _, _, _, rfl⟩, fun _ _ _ _ _ => trivial, ?_, ?_⟩
  · rintro j sl M' hj ⟨rfl, a, b, c, d, e, rfl⟩
    replace hj : j < size := hj
    refine ⟨_, rfl, _, rfl, kh, _, hh, _, atI_l j (by omega) (by omega), ?_⟩
    refine ⟨_, rfl, _, rfl, _, rfl, kr, _, hr, _, atI_l (size - 1 - j) (by omega) (by omega), ?_⟩
    have el := lowM_eq size names j
    have em := topM_eq names j
    refine ⟨_, rfl, _, rfl, _, rfl, _, rfl, ?_⟩
    refine lc_rng (lowM size names j) 1 (min names (j + 1) + 1 - (names + j - size)) (fun t => (hs.getD j []).getD (names + j - size + t) 0 * (rs.getD (size - 1 - j) []).getD (names - (names + j - size + t)) 0) ?_ (by omega) ?_ ?_
    · intro RD hr
      refine ⟨_, rfl, _, rfl, _, rfl, lowM size names j, topM names j, rfl, rg2, ?_⟩
      have e2 : (topM names j - lowM size names j).toNat = min names (j + 1) + 1 - (names + j - size) := by rw [el, em]; omega
      rw [e2]
      exact hr
    · intro t ht Q q
      have l1 := oh.len j (by omega)
      have l2 := or.len (size - 1 - j) (by omega)
      have i1 : lowM size names j + (t : Nat) * 1 = ((names + j - size + t : Nat) : Int) := by omega
      have i2 : (names : Int) - (lowM size names j + (t : Nat) * 1) = ((names - (names + j - size + t) : Nat) : Int) := by omega
      exact ⟨_, rfl, _, rfl, _, atI_i _ i1 (by omega), _, rfl, _, rfl, _, rfl, _, atI_i _ i2 (by omega), mul_big (Nat.lt_trans (oh.small _ _) (by decide)) (Nat.lt_trans (or.small _ _) (by decide)), q⟩
    · exact ⟨_, rfl, rfl, _, _, _, _, _, rfl⟩
  · rintro sl M' ⟨rfl, a, b, c, d, e, rfl⟩
    exact ⟨_, rfl, .all (Pre.refl _) hq⟩
end Once

/-! L46b: the tables as they are. -/
namespace Once
open PySem PySem.Spec L2 OD
noncomputable def nth (l : List Nat) : Nat → Nat := List.rec (motive := fun _ => Nat → Nat) (fun _ => 0) (fun x _ ih n => Nat.rec (motive := fun _ => Nat) x (fun n' _ => ih n') n) l
noncomputable def row (l : List (List Nat)) : Nat → List Nat := List.rec (motive := fun _ => Nat → List Nat) (fun _ => []) (fun x _ ih n => Nat.rec (motive := fun _ => List Nat) x (fun n' _ => ih n') n) l
noncomputable def termN (L R : List Nat) (low m : Nat) (t : Nat) : Nat := Nat.rec (motive := fun _ => Nat) 0 (fun t ih => Nat.add ih (Nat.mul (nth L (Nat.add low t)) (nth R (Nat.sub m (Nat.add low t))))) t
noncomputable def sumN (A B : List (List Nat)) (j m : Nat) (f : Nat) : Nat := Nat.rec (motive := fun _ => Nat) 0 (fun f ih => Nat.add ih (termN (row A f) (row B (Nat.sub (Nat.sub j 1) f)) (Nat.sub (Nat.add m f) j) m (Nat.sub (Nat.add (min m (Nat.add f 1)) 1) (Nat.sub (Nat.add m f) j)))) f
noncomputable def allN (p : Nat → Bool) (n : Nat) : Bool := Nat.rec (motive := fun _ => Bool) true (fun n ih => and ih (p n)) n
theorem allN_of {p : Nat → Bool} {n : Nat} (h : allN p n = true) : ∀ k, k < n → p k = true := by
  induction n with
  | zero => exact fun k hk => absurd hk (Nat.not_lt_zero _)
  | succ n ih =>
    have h' : (allN p n && p n) = true := h
    rw [Bool.and_eq_true] at h'
    intro k hk
    by_cases e : k = n
    · rw [e]; exact h'.2
    · exact ih h'.1 k (by omega)
theorem nth_eq (l : List Nat) : ∀ n, nth l n = l.getD n 0 := by
  induction l with
  | nil => intro n; rfl
  | cons x r ih => intro n; cases n with
    | zero => rfl
    | succ n => exact (ih n).trans (by simp)
theorem row_eq (l : List (List Nat)) : ∀ n, row l n = l.getD n [] := by
  induction l with
  | nil => intro n; rfl
  | cons x r ih => intro n; cases n with
    | zero => rfl
    | succ n => exact (ih n).trans (by simp)
abbrev zi (l : List Nat) : List Int := l.map Int.ofNat
theorem zi_getD (l : List Nat) (k : Nat) : (zi l).getD k 0 = ((l.getD k 0 : Nat) : Int) := by
  rw [List.getD_eq_getElem?_getD, List.getD_eq_getElem?_getD, List.getElem?_map]
  cases l[k]? <;> rfl
abbrev tk (A : List (List Nat)) (j : Nat) : List (List Int) := (A.take j).map zi
theorem tk_getD {A : List (List Nat)} {j f : Nat} (h : f < j) : (tk A j).getD f [] = zi (A.getD f []) := by
  rw [List.getD_eq_getElem?_getD, List.getD_eq_getElem?_getD, List.getElem?_map, List.getElem?_take_of_lt h]
  cases A[f]? <;> rfl
theorem range_acc (f : Nat → Int) (n : Nat) : ((List.range n).map f).sum = accM f n := by
  induction n with
  | zero => rfl
  | succ n ih => rw [sum_range_succ, ih]; rfl
theorem term_eq (L R : List Nat) (low m : Nat) : ∀ t, accM (fun t => (zi L).getD (low + t) 0 * (zi R).getD (m - (low + t)) 0) t = ((termN L R low m t : Nat) : Int) := by
  intro t
  induction t with
  | zero => rfl
  | succ t ih =>
    show _ + ((zi L).getD (low + t) 0 * (zi R).getD (m - (low + t)) 0) = ((termN L R low m t + nth L (low + t) * nth R (m - (low + t)) : Nat) : Int)
    rw [ih, zi_getD, zi_getD, nth_eq, nth_eq, Int.natCast_add, Int.natCast_mul]
theorem sum_eq (A B : List (List Nat)) (j m : Nat) : ∀ f, f ≤ j → accM (pT (tk A j) (tk B j) j m) f = ((sumN A B j m f : Nat) : Int) := by
  intro f
  induction f with
  | zero => exact fun _ => rfl
  | succ f ih =>
    intro hf
    show _ + pT (tk A j) (tk B j) j m f = ((sumN A B j m f + termN (row A f) (row B (j - 1 - f)) (m + f - j) m (min m (f + 1) + 1 - (m + f - j)) : Nat) : Int)
    rw [ih (by omega), Int.natCast_add]
    congr 1
    unfold pT
    rw [range_acc, tk_getD (by omega), tk_getD (by omega), term_eq, row_eq, row_eq]
/-- what is looked at in a table -/
structure TabOk (A : List (List Nat)) : Prop where
  len : A.length = 41
  rows : ∀ j, j < 41 → (A.getD j []).length = j + 3 ∧ (A.getD j []).getD (j + 2) 0 = 0
  small : ∀ i k, ((A.getD i []).getD k 0).log2 < 1000
noncomputable def chkRows (A : List (List Nat)) : Bool := allN (fun j => and (Nat.beq (row A j).length (j + 3)) (Nat.beq (nth (row A j) (j + 2)) 0)) 41
def chkSmall (A : List (List Nat)) : Bool := A.all fun r => r.all fun x => Nat.blt x.log2 1000
theorem tabOk_of {A : List (List Nat)} (h1 : Nat.beq A.length 41 = true) (h2 : chkRows A = true) (h3 : chkSmall A = true) : TabOk A := by
  refine ⟨Nat.eq_of_beq_eq_true h1, fun j hj => ?_, fun i k => ?_⟩
  · have h := allN_of h2 j hj
    rw [Bool.and_eq_true] at h
    rw [row_eq, nth_eq] at h
    exact ⟨Nat.eq_of_beq_eq_true h.1, Nat.eq_of_beq_eq_true h.2⟩
  · unfold chkSmall at h3
    rw [List.all_eq_true] at h3
    rw [List.getD_eq_getElem?_getD, List.getD_eq_getElem?_getD]
    cases e : A[i]? with
    | none => exact (by decide : (0 : Nat).log2 < 1000)
    | some r =>
      have h4 := h3 r (List.mem_of_getElem? e)
      rw [List.all_eq_true] at h4
      show (r[k]?.getD 0).log2 < 1000
      cases e2 : r[k]? with
      | none => exact (by decide : (0 : Nat).log2 < 1000)
      | some x => have := h4 x (List.mem_of_getElem? e2); exact Nat.le_of_ble_eq_true this
theorem TabOk.rowsOk {A : List (List Nat)} (o : TabOk A) {j : Nat} (hj : j ≤ 41) : RowsOk (tk A j) := by
  have hl : (tk A j).length = j := by rw [List.length_map, List.length_take, o.len]; omega
  refine ⟨fun f hf => ?_, fun i k => ?_⟩
  · rw [hl] at hf
    rw [tk_getD hf, List.length_map, (o.rows f (by omega)).1]
  · by_cases h : i < j
    · rw [tk_getD h, zi_getD, Int.natAbs_natCast]
      exact o.small i k
    · rw [List.getD_eq_getElem?_getD (l := tk A j), List.getElem?_eq_none (by omega)]
      exact (by decide : (0 : Nat).log2 < 1000)
theorem TabOk.len_tk {A : List (List Nat)} (o : TabOk A) {j : Nat} (hj : j ≤ 41) : (tk A j).length = j := by rw [List.length_map, List.length_take, o.len]; omega
/-- a row, its last i numbers done -/
def zr (A : List (List Nat)) (j i : Nat) : List Int := zi (List.replicate (j + 2 - i) 0 ++ (A.getD j []).drop (j + 2 - i))
theorem zr_len {A : List (List Nat)} (o : TabOk A) {j i : Nat} (hj : j < 41) : (zr A j i).length = j + 3 := by
  unfold zr
  rw [List.length_map, List.length_append, List.length_replicate, List.length_drop, (o.rows j hj).1]
  omega
theorem zr_0 {A : List (List Nat)} (o : TabOk A) {j : Nat} (hj : j < 41) : zr A j 0 = List.replicate (j + 3) 0 := by
  unfold zr
  obtain ⟨h1, h2⟩ := o.rows j hj
  have e : (A.getD j []).drop (j + 2) = [0] := by
    rw [List.drop_eq_getElem_cons (by omega), List.drop_eq_nil_of_le (by omega)]
    rw [List.getD_eq_getElem?_getD (l := A.getD j []), List.getElem?_eq_getElem (by omega)] at h2
    exact congrArg (fun z => [z]) h2
  rw [Nat.sub_zero, e, show ([0] : List Nat) = List.replicate 1 0 from rfl, List.replicate_append_replicate, zi, List.map_replicate]
  rfl
theorem zr_n {A : List (List Nat)} {j : Nat} : zr A j (j + 2) = zi (A.getD j []) := by
  unfold zr
  rw [Nat.sub_self]
  rfl
theorem zr_get {A : List (List Nat)} {j i k : Nat} (h : j + 2 - i ≤ k) : (zr A j i).getD k 0 = (((A.getD j []).getD k 0 : Nat) : Int) := by
  unfold zr
  rw [zi_getD]
  congr 1
  rw [List.getD_eq_getElem?_getD, List.getD_eq_getElem?_getD, List.getElem?_append_right (by rw [List.length_replicate]; exact h), List.length_replicate, List.getElem?_drop]
  congr 2
  omega
theorem zr_set {A : List (List Nat)} (o : TabOk A) {j i : Nat} (hj : j < 41) (hi : i < j + 2) : (zr A j i).set (j + 1 - i) (((A.getD j []).getD (j + 1 - i) 0 : Nat) : Int) = zr A j (i + 1) := by
  refine List.ext_getElem? fun k => ?_
  have l1 := zr_len o (i := i) hj
  have l2 := zr_len o (i := i + 1) hj
  by_cases hk : k < j + 3
  · have e1 : ∀ xs : List Int, k < xs.length → xs[k]? = some (xs.getD k 0) := fun xs h => by rw [List.getD_eq_getElem?_getD, List.getElem?_eq_getElem h]; rfl
    rw [e1 _ (by rw [List.length_set]; omega), e1 _ (by omega)]
    congr 1
    rw [List.getD_eq_getElem?_getD, List.getElem?_set]
    by_cases h2 : j + 1 - i = k
    · rw [if_pos h2, if_pos (by omega), zr_get (by omega), h2]
      rfl
    · rw [if_neg h2, ← List.getD_eq_getElem?_getD]
      by_cases h3 : j + 2 - i ≤ k
      · rw [zr_get h3, zr_get (by omega)]
      · unfold zr
        rw [zi_getD, zi_getD]
        congr 1
        have z : ∀ (n : Nat) (l : List Nat), k < n → (List.replicate n 0 ++ l).getD k 0 = 0 := fun n l hn => by
          rw [List.getD_eq_getElem?_getD, List.getElem?_append_left (by rw [List.length_replicate]; omega), List.getElem?_replicate, if_pos hn]
          rfl
        rw [z _ _ (by omega), z _ _ (by omega)]
  · rw [List.getElem?_eq_none (by rw [List.length_set]; omega), List.getElem?_eq_none (by omega)]
theorem tk_succ {A : List (List Nat)} (o : TabOk A) {j : Nat} (hj : j < 41) : tk A (j + 1) = tk A j ++ [zi (A.getD j [])] := by
  have h : j < A.length := by rw [o.len]; exact hj
  unfold tk
  rw [List.take_add_one, List.map_append, List.getD_eq_getElem?_getD, List.getElem?_eq_getElem h]
  rfl
noncomputable def dl (j m : Nat) : Nat := if and (Nat.beq j 0) (Nat.beq m 1) then 1 else 0
theorem zero_row (n : Nat) : (List.replicate n [D.int 0]).flatten = (List.replicate n (0 : Int)).map D.int := by
  induction n with
  | zero => rfl
  | succ n ih => rw [List.replicate_succ, List.flatten_cons, ih, List.replicate_succ]; rfl
end Once

/-! L46t: the tables, looked over. -/
namespace Once
open PySem PySem.Spec L2 OD
def tT : List (List Nat) := [
 [1, 1, 0],
 [5, 4, 1, 0],
 [60, 50, 16, 2, 0],
 [1105, 960, 350, 64, 5, 0],
 [27120, 24310, 9600, 2100, 256, 14, 0],
 [828250, 759360, 316030, 76800, 11550, 1024, 42, 0],
 [30220800, 28160500, 12149760, 3160300, 537600, 60060, 4096, 132, 0],
 [1282031525, 1208832000, 535049500, 145797120, 26862550, 3440640, 300300, 16384, 429, 0],
 [61999046400, 58973450150, 26594304000, 7490693000, 1457971200, 204155380, 20643840, 1458600, 65536, 1430, 0],
 [3366961243750, 3223950412800, 1474336253750, 425508864000, 86142969500, 12830146560, 1429087660, 117964800, 6928350, 262144, 4862, 0],
 [202903221120000, 195283752137500, 90270611558400, 26538052567500, 5531615232000, 861429695000, 102641172480, 9391147480, 648806400, 32332300, 1048576, 16796, 0],
 [13437880555850250, 12985806151680000, 6053796316262500, 1805412231168000, 384801762228750, 61954090598400, 7752867255000, 762477281280, 58694671750, 3460300800, 148728580, 4194304, 58786, 0],
 [970217083619328000, 940651638909517500, 441517409157120000, 133183518957775000, 28886595698688000, 4771541851636500, 619540905984000, 64238042970000, 5337340968960, 352168030500, 17993564160, 676039000, 16777216, 208012, 0],
 [75849500508999712500, 73736498355068928000, 34804110639652147500, 10596417819770880000, 2330711581761062500, 392857701502156800, 52486960368001500, 5664373997568000, 497844833017500, 35582273126400, 2042574576900, 91603599360, 3042175500, 67108864, 742900, 0],
 [6383483988812390400000, 6219659041737976425000, 2949459934202757120000, 904906876630955835000, 201331938575646720000, 34494531410063725000, 4714292418025881600, 524869603680015000, 48147178979328000, 3650862108795000, 227726548008960, 11512693069800, 458017996800, 13572783000, 268435456, 2674440, 0],
 [575440151532675686278125, 561746591015490355200000, 267445338794732986275000, 82584878157677199360000, 18550590970934594617500, 3221311017210347520000, 448428908330828425000, 51183746252852428800, 4855043834040138750, 385177431834624000, 25556034761565000, 1407764114964480, 63319811883900, 2254857830400, 60108039000, 1073741824, 9694845, 0],
 [55318762960656722780160000, 54091374244071514510143750, 25840343186712556339200000, 8023360163841989588250000, 1816867319468898385920000, 319070164700075027421000, 45098354240944865280000, 5253024354732561550000, 511837462528524288000, 42077046561681202500, 2927348481943142400, 171922415668710000, 8446584689786880, 340952833221000, 10952166604800, 264475371600, 4294967296, 35357670, 0],
 [5649301494178851172304968750, 5531876296065672278016000000, 2650477337959504210997043750, 826890981974801802854400000, 188548963850286755323875000, 33430358678227730300928000, 4786052470501125411315000, 566950739029021163520000, 56470011813375036662500, 4777149650266226688000, 345031781805785860500, 21289807141404672000, 1117495701846615000, 49380033571061760, 1802179261311000, 52570399703040, 1157079750750, 17179869184, 129644790, 0],
 [610768380520654474629120000000, 598825958382958224264326687500, 287657567395414958456832000000, 90116229490623143173899487500, 20672274549370045071360000000, 3695559691465620404347950000, 534885738851643684814848000, 64269847461015112666230000, 6519933498833743380480000, 564700118133750366625000, 42038916922342794854400, 2697521203208871273000, 149028649989832704000, 7048819042417110000, 282171620406067200, 9371332158817200, 249709398589440, 5036700091500, 68719476736, 477638700, 0],
 [69692599846542054607811528918750, 68406058618313301158461440000000, 32935427711062702334537967812500, 10355672426234938504445952000000, 2388080081501513294108336418750, 429983310626896937484288000000, 62824514754915546873915150000, 7641224840737766925926400000, 787305631397435130161317500, 69545957320893262725120000, 5308181110457253446275000, 351598214259594284236800, 20231409024066534547500, 1008809323008098304000, 43299888403419390000, 1580161074273976320, 48028077313938150, 1175103052185600, 21825700396500, 274877906944, 1767263190, 0],
 [8370071726919812448859648819200000, 8223726781891962443721760412412500, 3967551399862171467190763520000000, 1251546253020382688712442776875000, 289958827934578278124486656000000, 52537761793033292470383401212500, 7739699591284144874717184000000, 951342652003006852662143700000, 99335922929590970037043200000, 8922797155837598141828265000, 695459573208932627251200000, 47291068074982803430450000, 2812785714076754273894400, 146288649866327249805000, 6629318408338931712000, 259799330420516340000, 8690885908506869760, 242965567588157700, 5483814243532800, 94195128027000, 1099511627776, 6564120420, 0],
 [1055416526733959048109094382530187500, 1037888894138056743658596453580800000, 501647333695409709067027385157162500, 158702055994486858687630540800000000, 36920614464101289317017061917812500, 6727044808082216052488090419200000, 998217474067632556937284623037500, 123835193460546317995474944000000, 13080961465041344224104475875000, 1192031075155091640444518400000, 94581649851878540303379609000, 6575254146702635748556800000, 401974078637353829158825000, 21636813185205802106880000, 1024020549064290748635000, 42427637813369162956800, 1526321066220533497500, 47033029622507765760, 1214827837940788500, 25398718601625600, 405039050516100, 4398046511104, 24466267020, 0],
 [139408865749815645319532025741312000000, 137204148475414676254182269728924375000, 66424889224835631594150173029171200000, 21069188015207207780815150176600825000, 4919763735829092619316546764800000000, 900862992924071459335216310794625000, 134540896161644321049761808384000000, 16827094562854377388371369359775000, 1795610305177921610934386688000000, 165692178557190360171990027750000, 13350748041737026372978606080000, 945816498518785403033796090000, 59177287320323721737011200000, 3277634795043038914679650000, 160730612232957387079680000, 6963339733637177090718000, 265172736333557268480000, 8798792028800722515000, 250842824653374750720, 6010200882443901000, 116834105567477760, 1735881645069000, 17592186044416, 91482563640, 0],
 [19250185249760521734335806965493207281250, 18959605741974927763456355500818432000000, 9192677947852783309030212071837933125000, 2922695125892767790142607613283532800000, 684748610494234252876492380739526812500, 125945951637224771054503597178880000000, 18918122851405500646039542526687125000, 2383295874863413687167209177088000000, 256613192083529255172663382736568750, 23941470735705621479125155840000000, 1955167706974846250029482327450000, 140789706621954096296865300480000, 8985256735928461328821062855000, 509835090759712064195788800000, 25752844818195305758197250000, 1157260408077293186973696000, 46132125735346298226006750, 1622233210511173877760000, 49859821496537427585000, 1320225392912498688000, 29449984323975114900, 534098768308469760, 7416948847113000, 70368744177664, 343059613650, 0],
 [2773571358817699337199759576806719488000000, 2733526305465994086275684589100035433937500, 1327172401938244943441944885057290240000000, 422863185601228032215389755304544923750000, 99371634280354104864848658851640115200000, 18351262761245477977089995803819318575000, 2770810936018944963199079137935360000000, 351336567240387869140734361209903750000, 38132733997814618994675346833408000000, 3592584689169409572417287358311962500, 296874237122749706341151932416000000, 21684587295539203863963349449900000, 1407897066219540962968653004800000, 81558484218427572061606570530000, 4224347894866185674765107200000, 195721620618284323762299100000, 8100822856541052308815872000, 298501990052240753227102500, 9733399263067043266560000, 278165319928050911790000, 6865172043144993177600, 143042781002164843800, 2427721674129408000, 31602651609438000, 281474976710656, 1289904147324, 0],
 [416247904353715699120197940152355256398437500, 410488561105019501905564417367394484224000000, 199547420299017568298124975004302586677437500, 63704275293035757285213354482749931520000000, 15011643088843595143646336313311344793125000, 2782405759849914936215762447845923225600000, 422079043508645993473069903487844327225000, 53832898185510930713582108965601280000000, 5884887501276496808107300550265887812500, 559280098634614411921905086889984000000, 46703600959202324441424735658055512500, 3454536577428360219242495213568000000, 227688166603161640571615169223950000, 13429172016247929185239459430400000, 710723933903440270822571543190000, 33794783158929485398120857600000, 1443446952059846887746955862500, 55276203021103651048390656000, 1890512603664191437104982500, 57375827234921518202880000, 1529909259604280014845000, 35306599079031393484800, 689206126646794247400, 10977524091715584000, 134311269340111500, 1125899906842624, 4861946401452, 0],
 [64965105423062356116694928850221342392320000000, 64102177270472217664510482783462709485359375000, 31197130643981482144822895719921980801024000000, 9977371014950878414906248750215129333871875000, 2357058185842323019552894115861747466240000000, 438339978194232978194473020348691267959250000, 66777738236397958469178298748302157414400000, 8562174882603961581882275185039127780850000, 942075718246441287487686906898022400000000, 90234941686239617724311941770743613125000, 7606209341430756002137909181703782400000, 568934775321191952286446779834494425000, 37999902351711962411667447349248000000, 2276881666031616405716151692239500000, 122781001291409638265046486220800000, 5970081044788898274909600962796000, 261909569481703511835436646400000, 10358854597135371782654624425000, 368508020140691006989271040000, 11741078275388136293599365000, 332779797962544805576704000, 8305221694994662937730000, 179742686220523457740800, 3296203214397711618000, 49398858412720128000, 569479782002072760, 4503599627370496, 18367353072152, 0],
 [10528895093313253457780007680523291537120920312500, 10394416867689976978671188616035414782771200000000, 5064072004367305195496328139893554049343390625000, 1622250793487037071530790577435943001653248000000, 384128784075608818973890576883282479354067187500, 71654568849606619794407981122197122973696000000, 10958499454855824454861825508717281698981250000, 1411872179855271121919769744964102756761600000, 156259691607522298869351522126964082000512500, 15073211491943060599802990510368358400000000, 1281336171944602571685229573144559306375000, 96806300709118712754482480494411776000000, 6542749916193707451294137968096685887500, 397537439987140529845136372269056000000, 21793010232016899883283166197149500000, 1080472811364404816732409078743040000, 48506908488909798483640507822717500, 1972024993744591147937405337600000, 72511982179947602478582370975000, 2404999710391878150877347840000, 71620577479867631390956126500, 1901598845500256031866880000, 44546189091335010302370000, 906528330503509612953600, 15656965268389130185500, 221306885688986173440, 2409337539239538600, 18014398509481984, 69533550916004, 0],
 [1769561485004216951794232439382112305246371840000000, 1747796585490000073991481274966866395162072771875000, 852342183150578112251037466514904012187238400000000, 273459888235834480556801719554251918664543093750000, 64890031739481482861231623097437720066129920000000, 12138469576789238679574942229511726347588523125000, 1863018790089772114654607509177125197316096000000, 241086988006828138006960161191780197377587500000, 26825571417250151316475625154317952378470400000, 2604328193458704981155858702116068033341875000, 223083530080757296877084259553451704320000000, 17006825554901088678731228879918696248250000, 1161675608509424553053789765932941312000000, 71466960623038958314135968574594568925000, 3975374399871405298451363722690560000000, 200495694134555478926205129013775400000, 9184018896597440942225477169315840000, 382348572794936058635754591073185000, 14461516620793668418207639142400000, 496134614915430964327142538250000, 15391998146508020165615026176000, 429723464879205788345736759000, 10718102583728715815976960000, 236288481267081358995180000, 4532641652517548064768000, 73900876066796694475560, 987369182304707543040, 10172758499011385200, 72057594037927936, 263747951750360, 0],
 [308017898663123557203794845757345870240722760390625000, 304364575420725315708607979573723316502375956480000000, 148562709766650006289275908372183643588776185609375000, 47731162256432374286058098124834624682485350400000000, 11348585361787130943107271361501454624578538390625000, 2128393041054992637848397237595957218169061376000000, 327738678573309444348523440196816611384890124375000, 42583286630623362620676743066905718795796480000000, 4761468013134855725637463183537658898207353125000, 464976571232335956152244169341511174560153600000, 40106654179264056709800224012587447713464875000, 3082608779297737193210618859284059914240000000, 212585319436263608484140360998983703103125000, 13225230004568833373227760412159639552000000, 745298303640263422418846529420771933075000, 38163594238765490865133091737829376000000, 1779399285444179875470070519997256675000, 75633096795508337171268635512012800000, 2931339058094509782874118531561085000, 103514013706733626572433627545600000, 3324101919933387460991855006275000, 96749702635193269612437307392000, 2539275019740761476588444485000, 59648570900751114106306560000, 1240514526652177134724695000, 22481902596487038401249280, 346765649236507566385320, 4388307476909811302400, 42870910817262266200, 288230376151711744, 1002242216651368, 0],
 [55462353365809017793736137428299342021966954496000000000, 54827185962035993182275482544807564902848651349531250000, 26784082637023827782357502202487651852209084170240000000, 8616637166465700364778002685586651328149018765343750000, 2052439977026592094300498219367888861346870067200000000, 385851902300762452065647226291049457235670305281250000, 59595005149539793859755122652686802108733718528000000, 7772088663309909680264984438953079641413108663750000, 872957375927778933723873232871567235313827840000000, 85706424236427403061474337303677860167732356250000, 7439625139717375298435906709464178792962457600000, 576077396393065541831675944908074248975222750000, 40073914130870583511738045170692778885120000000, 2518318399475738131273662737987960790606250000, 143588211478175905195044255903447515136000000, 7452983036402634224188465294207719330750000, 353013246708580790502481098574921728000000, 15281899745579427165801782112917616150000, 605064774364066697370149084096102400000, 21907902434180020482532885867456530000, 724598095947135386007035392819200000, 21844098330990831886517904326950000, 598089070835740212149612445696000, 14794037071533132080993546130000, 328067139954131127584686080000, 6450675538591321100568414000, 110680135859628496744611840, 1618239696437035309798160, 19433933112029164339200, 180353486886413671600, 1152921504606846976, 3814986502092304, 0],
 [10319317984225947047234864999756954896298659812455661328125, 10205073019308859274047449286807078932041919627264000000000, 4989273922545275379587068911577488406159227272807343750000, 1607044958221429666941450132149259111132545050214400000000, 383440353907723666232621119508605984102631335057796875000, 72245887191336041719377537321749687919409826365440000000, 11189705166722111109903769562440434259834438853156250000, 1464334412245834934839697299466018566100314226688000000, 165156884095335580705630919327752942380028559104687500, 16295204350651873429512300346935921725858119680000000, 1422726642324694890820473999241052478784357113750000, 110918047537604504449408063668375029276894822400000, 7777044851306384814727625256259002361165507125000, 493217404687637950913699017485449586278400000000, 28421021936940473195802765185864128922556250000, 1493317399373029414028460261395854157414400000, 71734961725375354407813978456749298558468750, 3156353735276722362139830999022829568000000, 127349164546495226381681517607646801250000, 4713136137151677432146424444538060800000, 159927687769514149522490066832432669000, 4968672657923214075476814122188800000, 140993725590940823994797382473950000, 3640542170304505639171554017280000, 85065713161315509465712890247500, 1784685241350473334060692275200, 33245789314278347210621826000, 541102886424850428529213440, 7513255733457663938348600, 85777359942749415014400, 757484644922937420720, 4611686018427387904, 14544636039226909, 0],
 [1981905264698707733615343264497192170043876789610086400000000, 1960670417002929938974624349953821430296745364366575652343750, 959276863815032771760460232959865419611940444962816000000000, 309334983197807073534398272517804281181872090914055312500000, 73924068078185764679306706078865919112097072309862400000000, 13957228882241141450867408750113257821335780596103806250000, 2167376615740081251581326119652490637582294790963200000000, 284538217096647968223267283159199614035790016551687500000, 32215357069408368566473340588252408454206912987136000000, 3193033092509821226975531107003223552680552142690625000, 280277514831212222987611565967297853684759658496000000, 21987593563199830130861870897361720126667337212500000, 1552852665526463062291712891357250409876527513600000, 99306880408989221480368137887614953227190321750000, 5777689597769473139274759919115266582118400000000, 306947036918957110514669864007332592363607500000, 14933173993730294140284602613958541574144000000, 666713173682900352731447564480375833661062500, 27355065705731593805211868658197856256000000, 1032198491587382361198892300609347757500000, 35819834642352748484312825778489262080000, 1142340626925101068017786191660233350000, 33425616062392531053207658640179200000, 895003649403363491445235558312900000, 21843253021827033835029324103680000, 483173250756272093765249216605800, 9609843607271779491096035328000, 169922923161867107965400444000, 2628214019777844938570465280, 34716423044252654059955600, 377420383748097426063360, 3176548510967156925600, 18446744073709551616, 55534064877048198, 0],
 [392527890810815108141291888961359377131566352072116373574218750, 388453431880946715788607279841449665328599850763576934400000000, 190185030449284204080538561945520678738784300343557838277343750, 61393719284162097392669454909431386855164188477620224000000000, 14693411701895835992883917944595703356138924318417627343750000, 2779544959739784751941932148565358558614849918850826240000000, 432674095349475384976889671253510992461409198479217993750000, 56971042470882135755852000859436896759306034505318400000000, 6473244438948741277079330691871791219314222876550890625000, 644307141388167371329466811765048169084138259742720000000, 56835989046674817840164453704657379237713828139893125000, 4484440237299395567801785055476765658956154535936000000, 318820106666397536897497128011744941836676389581250000, 20545435266965511285705739793342082346058671718400000, 1205869262109154832261613102921038717758739621250000, 64710123495018099159877311094090985719726080000000, 3184575508034180021589699839076075645772427812500, 144061207939515778765098519334658871656448000000, 6000418563146103174583028080323382502949562500, 230358448048266053096520999226929315840000000, 8154368083540320653471249174813847284250000, 266090200200334703026323848640205946880000, 7996384388475707476124503341621633450000, 220899723542768031308154961448140800000, 5593772808771021821532722239455625000, 129312057889216040303373598693785600, 2713203638862143295758707139401800, 51252499238782823952512188416000, 861751967463754618967387966000, 12687929750651665220685004800, 159695546003562208675795760, 1655779748056169353052160, 13301796889674969625950, 73786976294838206464, 212336130412243110, 0],
 [80096890196524566529230127945831908903729729737903308800000000000, 79290633943784651844540961570194594180576403118567507461992187500, 38845343188094671578860727984144966532859985076357693440000000000, 12552212009652757469315545088404364796759763822674817326304687500, 3008292244923942772240803290562137955903045235403390976000000000, 570104374033558436523896016250313290218190263554603940937500000, 88945438711673112062141828754091473875675197403226439680000000, 11744011159485760449372719648309584081095392530150202687500000, 1338819498065730190262522020196767073843691810874982400000000, 133780385071607319726306167632017018532493939448718406250000, 11855251401542279632462189336476886311148143979266048000000, 940377273317710622446357324931603911023992429223686250000, 67266603559490933517026775832151484884342318039040000000, 4365382998970673966750345291237738434379107488112500000, 258285471927566427591729300259157606636166158745600000, 13988083440466196054234711993884049126001379606500000, 695633827571444565968681094261478096487055360000000, 31845755080341800215896998390760756457724278125000, 1344571274102147268474252847123482802126848000000, 52424709551697532998988561122825341867875125000, 1888939273995781635391472193660820389888000000, 62905125215882473612492493634278250478500000, 1935201456002434203827809808292406886400000, 54931684059963555705550935998966003700000, 1435848203027992203503007249412915200000, 34457640502029494420641568995046650000, 755978184583109158696645653902131200, 15073353549234129420881706330010000, 270906067404994926606135853056000, 4338475422403730150663401484000, 60902062803127993059288023040, 731508630080833342966548320, 7244036397745740919603200, 55625696084095327526700, 295147905179352825856, 812944042149730764, 0],
 [16824536520182953068744831964314194238246047382414150356242558593750, 16660153160877109838079866612733037051975783785483888230400000000000, 8166935296209819139987719041730043200599369521212453268585195312500, 2641483336790437667362529502921857724234478985192323153920000000000, 633886706487464252200435026964420422236368073045078274978386718750, 120331689796957710889632131622485518236121809416135639040000000000, 18813444343107428405288568536260338577200278697301930050937500000, 2490472283926847137739971205114561268518905527290340311040000000, 284792270617529690897288451471507413966563268856142415171875000, 28561482625402244058933803097531030908665425298666291200000000, 2541827316360539074799817185008323352117384849525649718750000, 202617023953631688263899235932514056954168278918365184000000, 14575847736424514647918538536439860620871882652967136875000, 952081158072794751317917442547374862978383578398720000000, 56749978986618761567754488786090599646928397345462500000, 3099425663130797131100751603109891279633993904947200000, 155617428275186431103361170931960046526765348122312500, 7201856097210249624146345446471773234218926080000000, 307842299109970735420337651110687312424668021875000, 12171908376082596325135341563433633787674624000000, 445610031189429030491402769544015405876938562500, 15111514191966253083131777549286563119104000000, 474647762992567755439716088331372253610500000, 13798827773234748235989600372171944755200000, 370788867404754001012468817993020524975000, 9189428499379150102419246396242657280000, 209396430743102312248514150046821950000, 4367873955369075139136174889212313600, 82903444520787711814849384815055000, 1419921456743421684280436195328000, 21692377112018650753317007420000, 290758235318159450734665400320, 3337508124743802127284876710, 31610340644708687649177600, 232319083645339309082100, 1180591620717411303424, 3116285494907301262, 0],
 [3634953017449284633992129672905924654910086625237790747525120000000000, 3600450815319151956711394040363237566984654139836628176235907539062500, 1765976235052973642836465860949701927509433081261292152422400000000000, 571685470734687339799140332921103024041955866484871728800963671875000, 137357133513102758702851534151936601660192907230000804003840000000000, 26116132307283527190657923110934121396138364609457224929109532812500, 4091277453096562170247492475164507620028141520148611727360000000000, 542902251043957219695470120617798341799208042407855695755625000000, 62261807098171178443499280127864031712972638182258507776000000000, 6265429953585653199740345932373163107264391914835133133781250000, 559805059457883983555102540711608205809842335853859307520000000, 44828590852176780046469503081055884573706605527997822312500000, 3241872383258107012222387774920224911266692462693842944000000, 213031620763127521777270947840274885997358284927981231250000, 12785089836977529517697748514207605302852579481354240000000, 703699739434072643440155660947523435621912127083735000000, 35643395126004167007658643435763749715790929906892800000, 1666021879181407674165396065271572262815958432838875000, 72018560972102496241463454464717732342189260800000000, 2883996275872357416043163257773807453241626731250000, 107112793709526847661191005758215977331536691200000, 3692197401283840538357337233364699077266062375000, 118144565500827069559030260839876766203904000000, 3508266074292892105423988478971012309295000000, 96591794412643237651927202605203613286400000, 2462038079567566566722792951473656285834000, 57964087457622331415259861883992145920000, 1256378584458613873491084900280931700000, 24959279744966143652206713652641792000, 451680835664981326439524234509610000, 7383591575065792758258268215705600, 107762131459705555355187714280000, 1381101617761257390989660651520, 15170491476108191487658530500, 137597953394614287414067200, 969102463206272546456760, 4722366482869645213696, 11959798385860453492, 0],
 [807138423428164195540412328569147394819256523106013108643167449023437500, 799689663838842619478268528039303424080219057552313964455526400000000000, 392449138869787563281541950399592894801327301242192471209713921757812500, 127150288923814102284225541988378538780679181850813034974412800000000000, 30585172684305772679254007811279011786244638856940637490851556445312500, 5823942460955556969000905048042111910392179266552034089762816000000000, 914064630754923451673027308882694248864842761331002872518833648437500, 121569387177726418773068347833459654995121919455844462755840000000000, 13979732964381898407158355605908307301329607092002284165707343750000, 1411267627558546711385983682898251385494046465464526176256000000000, 126561685062430194634754987833937894766740716679669689302381250000, 10178273808325163337365500740211058287451678833706532864000000000, 739671749060916870766746800837422095466158991211964068156250000, 48877460547583767261199077221874160200636286360614862848000000, 2952009602003338516056468848643809134534821948287739918750000, 163649149913312377826531180981857347876513017361334272000000, 8356434405779612640851848473751840798010206509119353125000, 394174016687575493967048527407269702739334989558579200000, 17215559418207879299709092674472913382431570472668375000, 697442906256150489917330295868845407945411788800000000, 26244366110438452485992785645741647824498803254375000, 918109660367372979953065763641851234270314496000000, 29873233519478346173982092160859837988789050125000, 904062762093285401843014169905143950082048000000, 25434929038623467764323916472539839242388750000, 664551545558985475045259153923800859410432000, 16097941289480242936264415451943137253530000, 360665433069650062139394696167062241280000, 7448530179290353678554289051665523650000, 141149030281877502033169001345974272000, 2439076512590899162773430866351894000, 38108859742275059397462029500416000, 532075524082296179566239339257500, 6528844011235034939223850352640, 68713402568254749679394520500, 597568254742324905341091840, 4037926930026135610236500, 18889465931478580854784, 45950804324621742364, 0],
 [184066131428029146973588511491190026466314356576641943664066560000000000000, 182413283694765108192133186256627311229151974221958962553355843479296875000, 89565242349950373381566075140401983496984534445859164019018956800000000000, 29041236276364279682834104329569874215298220291922242869518830210078125000, 6993265890809775625632404809360819632937355001794716923592704000000000000, 1333513529035731688815474740571764913880266254162611794601127861015625000, 209661928594400050884032581729516028774118453595873227231461376000000000, 27944261568793374094003977728699509893868050132119230674147200109375000, 3221588760209750097486311217586680857370730865579878263029760000000000, 326193769168910962833694964137860503697690832146719963866504687500000, 29354366653217771596828460604283628818276166481662144466124800000000, 2370155192987329099523593408526473301995326148728359636026412500000, 173030654741527776735213512583587990886678540173011058688000000000, 11493361023869631376529450289935327944935701248062826289812500000, 698249436394053818017129674598202288580518376580212326400000000, 38966526746444068411945388802098280575859649717398166927500000, 2004702086438076628375006967027752511487284462676344832000000, 95361663218896756019132859053403359694940003692303206250000, 4204522844667471935648517625677543495886239888624844800000, 172155594182078792997090926744729133824315704726683750000, 6555963318807814605222904781167146834686870814720000000, 232450099835312007733078958576568880731275114538750000, 7678735341254392195971095477731846686624448512000000, 236388195675872130594119164055499587563461179250000, 6780470715699640513822606274288579625615360000000, 181096694754999090481986285284483655405807900000, 4498502769937747831075600426561113509855232000, 103742288309983787811481788468077995633860000, 2215516231713564667427710276454810910720000, 43663797602736556046697556509763414500000, 790434569578514011385746407537455923200, 13060861325486750355496436252077884000, 195307906179159679411992901189632000, 2612007118222181245143356756355000, 30723971817576635008112236953600, 310191931593835727124123835400, 2589462437216741256478064640, 16806506681730402269633000, 75557863725914323419136, 176733862787006701400, 0],
 [43080024666149253995370243938767989976325501132822964711055357679349433593750, 42703342491302762097872534665956086140184930725780930930063441920000000000000, 20977527624897987442095316419512140791352477035525280693635922000119140625000, 6806958418596228376999021710670550745770824617885296465445440716800000000000, 1640829849614581802080126894620697893164349446493606722127813906869414062500, 313298311908277948028331735459364719555593504080403318176953139200000000000, 49340000574322072486172565401155301813569851404016636400241730857578125000, 6589374898681144456355309711499075190043722827298872855845928960000000000, 761481127749619444061608393107061644607904366100249035870511202980468750, 77318130245034002339671469222080340576897540773917078312714240000000000, 6980546660214694604641072232550214779130583807939807226743200312500000, 565738702771106143502512149828011755406777026737488602438041600000000, 41477715877278259241662884649213282784918207602746293630462218750000, 2768490475864444427763416201337407854186856642768176939008000000000, 169116597922653147397504768551905539761196746935781586835812500000, 9496192334959131925032963574535551124695049921490887639040000000, 491952400173856363700810533626490792270228077682151857459687500, 23584730428683254451470670200326500135144523090309939200000000, 1048978295407864316210461449587436956644340040615335268750000, 43372972502885499967742602875410448694405422008972083200000, 1669909263566164292071781989423872598095862335848832375000, 59940236057671447819180843713528199631422818877440000000, 2007523589486785521331136460434003969951921443743750000, 62765314963296770993155041296242920742843318272000000, 1832008516488009012104423521430121803616824139187500, 49904264467549354181734382178763946044529049600000, 1267676863284993633373903996991385587840655300000, 29990018466251652207170669510407423399034880000, 659504547113468365372991369547067257958110000, 13445891613158185567837138229518852423680000, 253250026095872025070845827756627804100000, 4385636966693690643817689745046529638400, 69385825791648361263574817589163758750, 994294795093903822461054769692672000, 12752740636025943726288153575145000, 143963753659501946895154481725440, 1395863692172260772058557259300, 11197675404180502730715955200, 69879685676668514700053000, 302231454903657293676544, 680425371729975800390, 0],
 [10341152546967746232408554518568902006326003153323537633742860152995840000000000, 10253045870543522450898118057426781614365469269611865601231175127685165195312500, 5038994413973725927548959090582818164541821825642149849747486146560000000000000, 1636247154742043020483434680721946981725493208770971894103601916009292968750000, 394803588278581245865943259218891943254707827837347194995835561574400000000000, 75478173082270762895685837152552103085560074538705909217879439715993046875000, 11905335852514562025076605947455859343112553155055326090724219289600000000000, 1592977161399541197410714254380156887123826631043965689493518739116093750000, 184502497163072044777948671921974105321224239164368439963686010880000000000, 18783201151157279620186340363307520566994974363806142884805943006851562500, 1700998865390748051472772322885767492691745897026175722879713280000000000, 138341742902436674891977613335995165622769751830079815948183424375000000, 10183296649879910583045218696904211597321986481274794843884748800000000, 682787015210580575208912101148587885844038186691362064378378062500000, 41922855777375872763274588191680747506258114876203822219264000000000, 2367632370917144063565066759726677556656754457100942215701375000000, 123450500354468715025428526468962164621035648979381539307520000000, 5961305555047906524845115878062182541627469647207251919805625000, 267293611525076883783334262270367001531637928356845977600000000, 11152295561704662730237537516666435012745088852857774962500000, 433729725028854999677426028754104486944054220089720832000000, 15744858770766691896676801614567941639189559166574705250000, 534013012150163807843611153084160323989039659089920000000, 16933025059149408310358281448878120442203163482012500000, 502122519706374167945240330369943365942746546176000000, 13923264725308868491993618762868925707487863457825000, 360846219996126099467925532677216225245056204800000, 8732885058185511696575783090385100716235625400000, 197077264206796571647121542496963068050800640000, 4138959571539698017168428595088491067185380000, 80675349678949113407022829377113114542080000, 1454145311131136143955179269054185455800000, 24121003316815298540997293597755913011200, 365852535992327723026121765470136182500, 5029961904592689925391218246680576000, 61941883089268869527685317364990000, 671830850411009085510720914718720, 6262523591907980761127581217400, 48326809639094801258879385600, 290269463580007676446374000, 1208925819614629174706176, 2622127042276492108820, 0]]
def tO : List (List Nat) := [
 [1, 1, 0],
 [4, 3, 1, 0],
 [32, 24, 10, 2, 0],
 [336, 256, 120, 35, 5, 0],
 [4096, 3168, 1600, 560, 126, 14, 0],
 [54912, 43008, 22880, 8960, 2520, 462, 42, 0],
 [786432, 622336, 344064, 145600, 47040, 11088, 1716, 132, 0],
 [11824384, 9437184, 5374720, 2408448, 856800, 236544, 48048, 6435, 429, 0],
 [184549376, 148342272, 86507520, 40517120, 15482880, 4775232, 1153152, 205920, 24310, 1430, 0],
 [2966845440, 2399141888, 1426368000, 692060160, 279568128, 93671424, 25561536, 5491200, 875160, 92378, 4862, 0],
 [48855252992, 39710085120, 23991418880, 11981491200, 5060689920, 1808970240, 541212672, 132612480, 25671360, 3695120, 352716, 16796, 0],
 [820675092480, 670014898176, 410337546240, 209924915200, 91975564800, 34637611008, 11139448320, 3015327744, 670956000, 118243840, 15519504, 1352078, 58786, 0],
 [14018773254144, 11489451294720, 7118908293120, 3717175418880, 1679399321600, 660287738880, 225144471552, 65927347200, 16310181888, 3325608000, 538009472, 64899744, 5200300, 208012, 0],
 [242919827374080, 199767518871552, 125032264089600, 66443144069120, 30813427814400, 12561906925568, 4496245079040, 1403498004480, 377649043200, 86081515520, 16202362176, 2422923776, 270415600, 20058300, 742900, 0],
 [4261707069259776, 3515192796119040, 2219639098572800, 1197677477068800, 568088881790976, 238877430865920, 89075340017664, 29323337472000, 8450227568640, 2104764000768, 444975218688, 77793159808, 10816624000, 1123264800, 77558760, 2674440, 0],
 [75576645116559360, 62505037015810048, 39777181640294400, 21752463166013440, 10522452119961600, 4544711054327808, 1755229818101760, 604439807262720, 184443792698880, 49401330401280, 11459270670848, 2259549487104, 368846878400, 47925964800, 4653525600, 300540195, 9694845, 0],
 [1353050213048123392, 1121716522256302080, 718807925681815552, 397771816402944000, 195772168494120960, 86558606134640640, 34464058828652544, 12336758150086656, 3952106432102400, 1124879427077120, 281587583287296, 61140058563584, 11297747435520, 1729827792000, 210959827200, 19234572480, 1166803110, 35357670, 0],
 [24428493151359467520, 20295753195721850880, 13086692759656857600, 7318771606942121984, 3657771268227072000, 1651011954300420096, 675157127850196992, 249959107988029440, 83501575997345792, 25030007403315200, 6679456460092416, 1570064100753408, 320492242470400, 55728311869440, 8035087536000, 923259479040, 79342611480, 4537567650, 129644790, 0],
 [444370175232646840320, 369917182006300508160, 239858901403985510400, 135418820730362265600, 68613483815082393600, 31544619417190268928, 13208095634403360768, 5036886509358612480, 1745250200416419840, 547079291017093120, 154184845604421632, 38744765038307328, 8586288050995200, 1654008915686400, 271616982220800, 37007317451520, 4020025648320, 326704870800, 17672631900, 477638700, 0],
 [8138178004138611179520, 6786744494462242652160, 4422922828336201728000, 2518518464741847859200, 1291895549767656013824, 603798657572725063680, 258198551525890719744, 101082364549005312000, 36170055709445898240, 11790134687257591808, 3483659743444328448, 926861174144761856, 220140710444928000, 46156154771865600, 8418567828003840, 1309797447598080, 169158447675360, 17424259776000, 1343120024400, 68923264410, 1767263190, 0],
 [149954735496689551933440, 125257174498481232936960, 82006495974752098713600, 47059898893497186385920, 24410255889036371558400, 11579211964584176123904, 5046031638286345175040, 2022343334611656376320, 744640085511005798400, 251245763315075809280, 77372758885127946240, 21631319729265885184, 5452124553792716800, 1227949721119180800, 244334565339955200, 42320368000235520, 6256006229975040, 767974249627200, 75214721366400, 5513861152800, 269128937220, 6564120420, 0],
 [2778431870693583712419840, 2324298400198688054968320, 1528137528881471041830912, 883146879728099524608000, 462755672452722332794880, 222482046531502929346560, 98622943284561775951872, 40368253106290761400320, 15249121111789505740800, 5305560609265916313600, 1694766876179875004416, 494854650409695313920, 131333012641971445760, 31454564733419520000, 6737129551005235200, 1275683625353871360, 210381060155016960, 29624029500764160, 3465249662952000, 323479854297600, 22606830726480, 1052049481860, 24466267020, 0],
 [51740903517466447136686080, 43343537182819905913749504, 28606749540906929907302400, 16639719758931573566603264, 8799927837290705977344000, 4282883534010712900763648, 1928177736606358721003520, 804435989003107573432320, 310961699709396021411840, 111210762047596193382400, 36701995744098338734080, 11137039472039178600448, 3092841565060595712000, 781445077300046315520, 178321366984949760000, 36415048957741117440, 6577743693230899200, 1035304212814502400, 139185916384542720, 15549088450896000, 1386552284557440, 92580354403680, 4116715363800, 91482563640, 0],
 [968005663749644565407072256, 811934178274088862760304640, 537780924305358091892817920, 314674244949976228980326400, 167831656189223629939015680, 82601989299368760107335680, 37717006605965310384144384, 16010761562892085808332800, 6319697883304716315525120, 2316969527246480159539200, 787372195296981049147392, 247275062235490827632640, 71487753367819051827200, 18932698163447857152000, 4565585708035069132800, 995033227776019660800, 194176587277711019520, 33533595298824192000, 5048111239227302400, 649312289353728000, 69418041550777920, 5925142681835520, 378737813469600, 16123801841550, 343059613650, 0],
 [18187325593339590525830823936, 15272978250272169809756028928, 10149177228426110784503808000, 5971222676769838123775426560, 3209677298489757535599329280, 1596024911115584713097478144, 738255279363108293459312640, 318390315504901970775244800, 128086092503136686466662400, 48029703913115843997990912, 16759412913749539820666880, 5428418624086803007143936, 1626809619970334392320000, 449230734181206112665600, 113731422538997484748800, 26235414458855177748480, 5472682752768108134400, 1022681068425700992000, 169192230825885696000, 24408060658439377920, 3009421306309017600, 308477740873061760, 25249187564640000, 1547884976788800, 63205303218876, 1289904147324, 0],
 [343054588390728737265289265152, 288399020122956364052460208128, 192228864184460068295205191680, 113670784958372440786442649600, 61542117587998815501491896320, 30893143997963916280143544320, 14460952982532116036852908032, 6327902394540928229651251200, 2590332638286309605092884480, 991481234561317313760460800, 354381328872449335444635648, 118037587603058959885271040, 36537433046738097163468800, 10474151168578229895168000, 2768951807548967293747200, 671556971182651814707200, 148489395207532067082240, 29704668417431175168000, 5325516971135317017600, 845573986553167872000, 117106759116554887680, 13864833875495116800, 1364971079744438400, 107320025057356800, 6320530321887600, 247959266474052, 4861946401452, 0],
 [6494318675361387753477622464512, 5465214477121264710915987603456, 3653054254890780611331162636288, 2170325885953581416236187648000, 1182886605973063211933918822400, 599009944523188470881187790848, 283490027275433584688376053760, 125721754501197580238762016768, 52293082288220170786701312000, 20395952485245356710371000320, 7451764226071374337104936960, 2545928334696710610350505984, 811508414771030349211238400, 240612363966324054491136000, 66122532547214947909632000, 16768256992691885657948160, 3903424894999163672985600, 828823160177989446328320, 159285903107964272640000, 27444601457071364966400, 4189114458382152499200, 557878846636882467840, 63526147938632171520, 6016112943119136000, 455078183175907200, 25787763713301408, 973469712824056, 18367353072152, 0],
 [123357698197879974903532291620864, 103909098805782204055641959432192, 69637410272996760026187583979520, 41553492149382629453891974987776, 22788421802512604870479970304000, 11634037677570362884432425123840, 5562235199143892943896743772160, 2497412145045486341302360473600, 1054193900918825655920970694656, 418344658305761366293610496000, 155950590541029881308529033216, 54533365472613239466995220480, 17852546249397665865262694400, 5457617031207368941948108800, 1553188781350723049422848000, 409959701792732677039718400, 99910864581455818711941120, 22362331879279096233984000, 4567344648640409927639040, 844634459901442129920000, 140079486212521395471360, 20586505338335149424640, 2640228766169203123200, 289585751305537290240, 26419816745490168000, 1925486357259838464, 105134728984998048, 3824345300380220, 69533550916004, 0],
 [2350495476434245719327625013362688, 1981681732340136371030938104102912, 1331335328449084489462912605224960, 797664881308871978481785052856320, 439978152169933723629444441047040, 226321583387239470085109647933440, 109230687083855073748282213662720, 49609124749121207337457444454400, 21228003232886633901070064025600, 8559694067289610026708736409600, 3250537995035765816101353553920, 1161157612054940890097650761728, 389524039090094567621394432000, 122444834204276656399672934400, 35970657705684931662839808000, 9843765343138360304342138880, 2499862964192641650209587200, 586460519257857058521907200, 126409292706480446767104000, 24872650234808677049548800, 4432641645562768297820160, 708637400839814118266880, 100413199115306061004800, 12419254918141272115200, 1313861279071419187200, 115632332490443513472, 8130419041506515712, 428326673642584640, 15033633249770520, 263747951750360, 0],
 [44918119266376424410034597026332672, 37901739557502212224157953340473344, 25521658674077513869337839219507200, 15349513198589444702042992389652480, 8512223804824676684655620492623872, 4409558813969780207930654286938112, 2146996642403271729726310443909120, 985540033839293898480741777408000, 427083682936344752911572742963200, 174777226617433285785476860477440, 67517196618572192259453789143040, 24597144655075838296732320399360, 8438645436445791352453857280000, 2721220384972059252124286976000, 822907028604614862216214609920, 232714515939387731801328844800, 61340271805779729236897955840, 15011432015372480497582080000, 3395087767948546644912537600, 705763040542286620687073280, 133970921951018501676687360, 23039994487375707745812480, 3555342019650868432128000, 486381486213914060390400, 58088242321669859120640, 5934899092034039242752, 504506519489343966336, 34266133891406771200, 1743901456973380320, 59132290782430712, 1002242216651368, 0],
 [860736278983276045348619327473975296, 726856839037727594998741660971565056, 490493100155910981724397043229655040, 296051240619299160884318934946283520, 165007266884836530546962168188764160, 86042478459579164325978434168684544, 42238931796973684097019951590670336, 19582496848293577315086128224665600, 8586517544824848090513462735667200, 3562502916200729402335558002278400, 1398217812939466286283814883819520, 518726199813723777316818329272320, 181683454838628351055409184768000, 59979295255968547766672031744000, 18625992945585150905844498432000, 5427684656753842708234607001600, 1479918874802043856924075622400, 376289062337976490276768972800, 88867677531005084545685913600, 19403504704746182992286515200, 3895269089146851156484423680, 714270845334540690880020480, 118690880692541524751155200, 17700825327874442202009600, 2340710902404461415628800, 270263190591348186645504, 26699174695198224285696, 2194745875744603695360, 144162520443132773120, 7095874893891685440, 232714176627630544, 3814986502092304, 0],
 [16535993088108302786221372787103105024, 13974306647022599324483466728401010688, 9449138907490458734983641592630345728, 5722419501818961453451298837679308800, 3204554645081873349572154957999636480, 1681337203626544858625888197965512704, 831743958442598588484458196963950592, 389201585843543232036826696799748096, 172540902108440361099386922467328000, 72508370378520939431002574212300800, 28881128292734285340794779525447680, 10896854525635675272443284590428160, 3890446498602928329876137469542400, 1312495861041596114647772037120000, 417667372131987668490716184576000, 125104585951180263584255547801600, 35183027328600801840877898956800, 9262551075231615669218920366080, 2274950213481230415071969280000, 519174326628503388661638758400, 109574886002462878671534981120, 21269405820103441235407011840, 3772058431146871912994488320, 606355586146679528620032000, 87494869054888141937126400, 11196669530398168537104384, 1251244575997232608576512, 119651856967369819947008, 9521701955074656547200, 605514657612090490880, 28856557901826187456, 916312070471295267, 14544636039226909, 0],
 [318444806016999839151865666053259395072, 269300458863478073947033785389964853248, 182442336780572824514089704509679861760, 110835845563536732188727039221664055296, 62344254572448685308653624178927206400, 32900094356173899722274124235462934528, 16393037735358812371602409930163748864, 7737827069831840527015691240047902720, 3465747454892504018613647252454899712, 1473954062972878123500189058596864000, 595227804107312802783593859215523840, 228131740655739506429308258473738240, 82910849651575790116416295796736000, 28538430780259124017192877477068800, 9289033207014629644739291381760000, 2853776248771213702259015889715200, 825690267277789739656086615490560, 224408467274697155917018202112000, 57119064963928296626850008924160, 13568372375539493418989322240000, 2995828151434104739017900687360, 611911701052714776996883660800, 114979093150883862522573619200, 19743604084309561454590525440, 3073595557364203127832576000, 429584977420677914514352128, 53255953792022058041868288, 5766209066071035518576640, 534297923508669841145856, 41203380217197720121600, 2539377095360704496128, 117287945020325794176, 3609714217008132870, 55534064877048198, 0],
 [6146386943472323099497006395959197827072, 5201265164944330706147139212203236786176, 3530019528345590969305713132814404157440, 2150899128360437510060847042640436264960, 1214931384061844948991815622237471375360, 644639592279119406091478474010107314176, 323383854281416624099426147972964941824, 153893823638062320223206297303578050560, 69595456261801495902867874118337822720, 29931455292253443797117862634837770240, 12243645083094707612541570446744616960, 4761822432858502422268750873724190720, 1759526723142671725119664759504896000, 617048054137689053366405893718016000, 205093970476206241114811787116544000, 64503046589509588253069639354941440, 19158071434765574339430011083161600, 5361382504722299893242010376601600, 1409962634008946281516359647232000, 347390804458979113987859703398400, 79905378407949853062011663155200, 17088448333180250501132719226880, 3381617295291318504456462336000, 615750106049411029881008947200, 102482690691861071109633024000, 15466332844656670139253522432, 2095919643935186445467879424, 251963652349351672456151040, 26457877653502812634557440, 2377856060442679357685760, 177871822906856619478784, 10634107015176205338624, 476482276645073538840, 14226520737620288370, 212336130412243110, 0],
 [118886060913013273283363181993216840826880, 100667851020114264818788807458142537383936, 68437699538741193501936042265832062976000, 41817154412709308405621524804109095403520, 23713662890173823548420838645110809821184, 12647139383355985956822119696852506902528, 6385001675907468403191786790195348635648, 3061940148511752088649051567185880678400, 1397285966895588566572066267563168890880, 607284796121497497582061894158533001216, 251424224454928927895790046132637270016, 99133265605095640359959407911166279680, 37201737756707050173974616200970240000, 13275173361732622152158726584270848000, 4499161811883949897688765259338219520, 1446113564377328711860516051904102400, 440047226492856277553393356945489920, 126515566078640585260386865643520000, 34286372067236436354313103396044800, 8735022098156859546925274981990400, 2085585508198371037905686290759680, 465013254795136738872158099865600, 96423846394120535743068635136000, 18505445862073199126082306048000, 3268606812945623550285022494720, 527802657504181542619710013440, 77293286226150207594185097216, 10165395098451080643803648000, 1186141390189247047343800320, 120906184672293489673250816, 10549034159054795695915008, 766124856872768087557632, 44471679153540196958400, 1934806820316359218320, 56093138908331422716, 812944042149730764, 0],
 [2304175256682615394741166037375262522343424, 1952234263413691645495226988520192333578240, 1329331878855355035427595790793420685967360, 814408624511020202673038902963401549414400, 463558455623814162691584951791892289290240, 248428849325630532412027833424970388602880, 126177274313016697104109054649993615376384, 60947743270025834757739782997319236976640, 28050773916088217745457144634941762437120, 12312316925688664470664004212730531676160, 5155460290478244713515802037643716329472, 2059012019968016447389007877798340067328, 783962049428052257948658582970957824000, 284335743346647115791239835825261772800, 98132163870062716693408625926864896000, 32186311423477487729619628393727262720, 10017064949472203836637584067081011200, 2952822347708055195783118822205030400, 822734560014432412026637011124224000, 216158819386298886339034114267545600, 53406231600134483370236111074099200, 12369679565866200638613035931402240, 2676154863882643635882142531584000, 538576092757884847469255825817600, 100338954407880501818880700416000, 17207633286216960109887602294784, 2698302474932854846091240325120, 383782636470120822429460725760, 49028482513298673566652979200, 5557636356957767774597283840, 550393825747007676870768640, 46659959439766088742273024, 3292810186468554869076960, 185741454750370484958720, 7853039447166399180240, 221256270138418389602, 3116285494907301262, 0],
 [44743098793913797712971688817976299969576960, 37930269610006130344200733230638936906268672, 25867103990231414302811757597892548419911680, 15887137088759121155110291158262832588390400, 9074838958837082258356719204449331550617600, 4885690513690990198414565119815943848984576, 2495580713680197621048097781223566176419840, 1213705210058541562620477573299938586001408, 563104149777412603739987125518710341632000, 249472840360103723778746520370333121249280, 105578117637780297835943836124164309123072, 42678411532678901505950851005503269502976, 16472096159744131579112063022386720538624, 6065950699194431498154779080906506240000, 2129393506491648455073955473790284595200, 711735920597209590508420298231827660800, 226198244170550122099826832878138818560, 68244602917794586566183326745781862400, 19509719083071078972138463646711808000, 5273705739261486430553013971582976000, 1344656931630631692950405317719490560, 322506396151901698608641309972889600, 72531302908942721926412801597767680, 15240539816409353279186257182720000, 2979541932515395204547657229926400, 539345770169597668824535879188480, 89885065218628495958619614871552, 13699074103505263064770912419840, 1893992231930466396405130854400, 235225689134827707147884236800, 25924739006279469677974388736, 2496456707525698214586347520, 205803749671825427131097088, 14124089788309422293736000, 774833225453751385783680, 31860902899932248102688, 873065282167813104916, 11959798385860453492, 0],
 [870399871050666991056395773082030341638586368, 738261130099577662264032865496608949498019840, 504195047254959537502180478309712697900400640, 310405247882776971633741091174710581038940160, 177898988563663182236874539365198927704883200, 96193292963673071938581223567162914436546560, 49399759638431123117302825100361210028621824, 24180782070441666390279705209371200218726400, 11304243738364395085896043781107406723874816, 5052295566058451972444884487292873342976000, 2159722017974612237284577019206026735386624, 883016983879617036446075720311192403574784, 345193034455491115121661294897452915097600, 128950196564150805202161298098329179127808, 45993313522463438825631788556846366720000, 15647098951405298277284176518518239395840, 5071118434255118332372494624901772083200, 1563429040590567020395861933128312422400, 457757658167897022172001612733402316800, 127043324991032724776829051841019904000, 33349484937601026902361517166061158400, 8260035437159594685266775523134013440, 1924945032173422210026242096037888000, 420742593031398454260369351203880960, 85939710631419408768744728002560000, 16335338645015654208932530763071488, 2875446975874600589413649864785920, 466070708541036645711360966000640, 69094157338681662643316830126080, 9293239774928596780738360115200, 1122946985521916619340769095680, 120424594093685278504139096064, 11284599641852517897800083200, 905328615980605793086795776, 60468403743181273687848000, 3228571493859801141072384, 129213661760836339527568, 3446310324346630677300, 45950804324621742364, 0],
 [16961076219723630394578806345768246634621173760, 14393441770057371217956983759746745649535647744, 9843481734661035496853771539954785993306931200, 6073791499489977684328592738707701802614128640, 3492059038681240930879587275715494036688076800, 1896007887002952493351222868434431238383599616, 978662197978239079722956796292005303397908480, 481985496776182082694656743380423964109045760, 226946715056957723100437649933785952052838400, 102276490966154050777154681829067013216010240, 44136854065086636431278510880990541524238336, 18240219110808757184054056893044838987988992, 7216965733631485394030426560235707144601600, 2732485936023582789366532224050374744473600, 989300449830786600757322128267604813414400, 342190252607127984862700506862936968396800, 112952495555456996939145149243053540638720, 35534462506287155290824807536721395712000, 10638505655512823862923566257608746598400, 3025855706533556587238654728237744128000, 816041624192400202149831942992151183360, 208219500804787676163222025210114867200, 50141564090675545450153153468878028800, 11363685165777400679478588605595648000, 2415982858422483311573214633866035200, 480098888068938703263178240496762880, 88797225454956889545992218506952704, 15211734416318367960579673414041600, 2399872492928741215627196906864640, 346334032037469803254606599782400, 45351010101651552290003197362176, 5335656326482600638376085053440, 557172818159151505579046338560, 50843937116092664700175219200, 3972507122585806023719485440, 258413163120383820278201472, 13438220823126979310867072, 523839169300687862949600, 13608507434599516007800, 176733862787006701400, 0],
 [331049160711319538013010626474175149939319898112, 281069263069705875110163076587016658516579450880, 192470442274022987216866643298939040662395289600, 119016642791810701916504692255816957919074713600, 68633843944236747832913097947397030369539653632, 37410580310045989798640448032012944810432266240, 19403825396774896793658259568445987780053434368, 9611860873000562390136182820725052086943744000, 4556730232276864281802035436142477579051335680, 2069754041319454434675991367396127882721886208, 901236373337051576848104196352602269397549056, 376243532205179089578521012335157133692633088, 150567846433562854113653771522775793532928000, 57735725869051883152243412481885657156812800, 21199832443902446212565796761658361978552320, 7448019100868921979987268022814681952419840, 2501140596358678889358291204767914288742400, 801893984673629795714012215721475440640000, 245127563390828342429927062160095051776000, 71333980026964934744024333748387069296640, 19727587122760581225324803039674603929600, 5174531220685450129761146329756682158080, 1284470946523040859448447558114344960000, 300985638794299673639642163078129254400, 66390145256984121662030677276537651200, 13740353420264595997456391590423560192, 2658458021993675506128942197377597440, 478808568629669502453879609596313600, 79885226391286832985528657587404800, 12275998013089679203484144177774592, 1725816627251504456218025563422720, 220171839364469632891789716226048, 25239298975870178533414272192000, 2568197068468226595740272558080, 228379002246166816265022337536, 17389425915559821556462288896, 1102450962143455648849210176, 55876178058740038714624000, 2122927159797524497216800, 53753604366668088230810, 680425371729975800390, 0],
 [6471448398482984051316925470686432332674414673920, 5496955831346096514913711332617699001318009470976, 3768883300252874234431732163325905193745042636800, 2335308032924812244897981938693793693370396180480, 1350580163854895356530770638207314174646891315200, 738909043314548817094766543859210582276320526336, 385017222357556645011007944329466557007365406720, 191775417186783965395048104772687750945717616640, 91504915510965353954096460453302495867704442880, 41874266056086739739958574007949826641478287360, 18388968597876691323467461764173290034952142848, 7750941982696357815293987033468178008163483648, 3135362768376492413154341769459642780771942400, 1216756666703672966529638450151886062983577600, 452754136024146655127541454003358444132761600, 161416268081643186951816768325609282433187840, 55089658521944267748526516927370664786001920, 17979285842219416542645343555709533421568000, 5604347959552368238934596485431200579584000, 1666190633643611459588408451852656443392000, 471724706629929407178225432852237071155200, 126954404204976257409233086228110036172800, 32414321993214254363986726298617852723200, 7833984006954572947458825976512774144000, 1787672278899476849496056483736767692800, 384071944800105157555270007647552143360, 77437150158097530836343600569559023616, 14597974001607783375039763112814182400, 2562114422340802929457290482370478080, 416613677022650807478682236606873600, 62402989899872535951044399570354176, 8552058178523363222284109000540160, 1063668007740512077821821939875840, 118884746448765471249512559682560, 11795419043568464875482025820160, 1022832859781533755962456257536, 75948689255137340302155808768, 4695694313611366003480214400, 232106702804529345029036800, 8600576698666894116929600, 212392290424395860814420, 2622127042276492108820, 0]]
def tH : List (List Nat) := [
 [0, 1, 0],
 [0, 1, 1, 0],
 [0, 4, 5, 2, 0],
 [0, 33, 41, 22, 5, 0],
 [0, 438, 520, 292, 93, 14, 0],
 [0, 8150, 9290, 5146, 1775, 386, 42, 0],
 [0, 195698, 216591, 117350, 40854, 9864, 1586, 132, 0],
 [0, 5753337, 6238841, 3318766, 1146385, 284298, 51730, 6476, 429, 0],
 [0, 199914718, 213716720, 112185704, 38391996, 9555840, 1810984, 260504, 26333, 1430, 0],
 [0, 8008472046, 8474383646, 4406996616, 1497168236, 371973120, 71425672, 10824228, 1273083, 106762, 4862, 0],
 [0, 363118552288, 381352388314, 197003566724, 66583185504, 16506433388, 3184070498, 492824260, 61654386, 6079520, 431910, 16796, 0],
 [0, 18374489899690, 19186218952634, 9863639697116, 3321959576082, 822316594542, 158981848118, 24856516468, 3197852515, 338174474, 28505070, 1744436, 58786, 0],
 [0, 1026133165591716, 1066622855357708, 546370438220076, 183565219181867, 45404541243114, 8793676175448, 1383379839024, 180651471474, 19763562500, 1799356416, 131675224, 7036530, 208012, 0],
 [0, 62673121298772856, 64908875238108964, 33156609271717598, 11120815606536533, 2749965053421350, 533497585327662, 84318039263544, 11117561786202, 1239861682228, 117396075940, 9337458572, 600789046, 28354132, 742900, 0],
 [0, 4155188028110843662, 4290516029020258627, 2186847174428674286, 732585167253815458, 181161349978940416, 35204350569567282, 5585762374085316, 741851188615932, 83796265359948, 8119056584314, 674752833508, 47450213356, 2712821552, 114159428, 2674440, 0],
 [0, 297157744115358069385, 306064679653866159801, 155721021462846496126, 52119546542685110841, 12891481786295737314, 2509201565674383530, 399497208478667292, 53372920349295105, 6086902936931970, 599027038088902, 51118984610772, 3771959630530, 236869796100, 12141207780, 459312152, 9694845, 0],
 [0, 22799456585141618029950, 23432622640361798985304, 11904599204563340952008, 3981785067557402481432, 985181629870181550360, 192049263245042309488, 30670391340001624304, 4118312491836497772, 473332634953302960, 47132039481025488, 4095772063388080, 311296683824048, 20590213780560, 1164449813040, 53922425968, 1846943453, 35357670, 0],
 [0, 1867986244692445401802838, 1916322861861878371075574, 972354254615336911268080, 325060497938463987656936, 80456000145113272755728, 15706232498710765227952, 2515160225609388083888, 339211262708528923268, 39242269652403363064, 3944656471517426984, 347522809964828960, 26960371833508432, 1842064969417232, 110106324779360, 5648559727624, 237885976019, 7423131482, 129644790, 0],
 [0, 162765000466068109472462984, 166708464910627687921270662, 84499591393354658670008604, 28237016309455292479457904, 6991580135144746031852880, 1366650020262677708666472, 219388030219071057853392, 29702174055048380731416, 3455485370570268680864, 350102709987681778200, 31185429901158434352, 2457178438799365584, 171734677181167032, 10631506152047508, 578287464946920, 27081179417898, 1043299036944, 29822170718, 477638700, 0],
 [0, 15028745607940054084390910942, 15371101802813337525778525070, 7784051360937792545985107028, 2600335685762410872513607158, 644091284092841763038039736, 126052075580948084813994840, 20279501836935538646885712, 2754910790454010405269996, 322068383128010445317128, 32852272633785641678552, 2953279132323669261840, 235612778440554273096, 16752969613953266172, 1063011602106424188, 60029478996525000, 2989355484170967, 128497594937994, 4551755065558, 119766321572, 1767263190, 0],
 [0, 1465781538208054861236903833588, 1497292436434664995496352250048, 757637533851120905088036957064, 253029347083150906089287087274, 62696820128990049244592584284, 12283549349664519223229247264, 1980094476548510482519210560, 269802002447058554298489096, 31677111584282129907586816, 3250132160349112537500200, 294463235792499600423224, 23736771158053642686426, 1711226633231751156300, 110637696870659175120, 6415695439340913504, 332433517806833934, 15236341875258060, 604100338736080, 19766153971160, 480832549478, 6564120420, 0],
 [0, 150576581676623729986159835231460, 153641344152085901265334685738380, 77688786113033080314713975812596, 25940203879147869437511776759998, 6429803439098887661509923204612, 1260987497737476838556444471700, 203630471103994453508371809888, 27820788791317350937238302152, 3278786328379836726084067352, 338133643291158638866757424, 30842369330134690084984332, 2508183268508561152434838, 182903069253850493185716, 12004782845018524020660, 710356591627751651856, 37861767673480802550, 1809368123408278236, 76682864189283020, 2816586605269500, 85476109776162, 1929894318332, 24466267020, 0],
 [0, 16250563582816438955792451417900356, 16564624016951293199313445010063126, 8370692334578504176819198740907516, 2794457770559178188975583437973292, 692889084652892001543022053472048, 136011123820449014674811683979412, 21998965966746817220370184517736, 3012832837923515713768335829440, 356270262349890174493955139244, 36907256888996775809456959030, 3386324895772588171875224700, 277482948264999471926202380, 20432529153295894248473248, 1357940527484119589757612, 81667790502467682959448, 4447830449800722339780, 218996861685233673324, 9696183066395034634, 381573517404946020, 13034354296932276, 368233083194416, 7744043540348, 91482563640, 0],
 [0, 1838187317735850402759326934312743306, 1872006879446057375791510531720591946, 945464999874297666265328784124961644, 315583993773661239876869869524002138, 78273528482276611321463369274740900, 15377649894439838869186307049009588, 2490857669069512483789902687429912, 341871889768959308632472729226306, 40548423346785323790491789255238, 4217384523786040834193393614770, 388966422548668483012851183324, 32084476970293050418334595158, 2382439903771778202831002428, 160023475530586728156696988, 9754420669210138172302440, 540537830716881558119019, 27229756555869117578058, 1244017721848172397894, 51236889864734303956, 1879271969279735470, 59911652512963372, 1580913732241916, 31067656725032, 343059613650, 0],
 [0, 217470731327761968074416969184239470476, 221288682968573719962335817763230923328, 111706829439535211344675015778421362768, 37281412473311675759791736649688910232, 9249497098288374917262031339641584016, 1818560601092052152024895921372742040, 294958658031243405334241127678144504, 40562727552783754320775686991241475, 4824046715115907017952816158238434, 503537813780910315360784521789120, 46655045174405331773971979082000, 3870899824665741008144922651336, 289543422284640336831196858272, 19626458226992379997152208608, 1210096816264573211650438848, 68028437282110516602514986, 3490492346973844740132852, 163350244608502087361664, 6952046583995549437936, 267323443639431138456, 9169330113761111008, 273684895225800816, 6766009539079632, 124613686513778, 1289904147324, 0],
 [0, 26857201620840496501317430096520641598988, 27308086280815055008864641385259151515372, 13778916336124166947131195767641545665296, 4598103543261220907330119305856633017400, 1141097355257560424077430110381055841912, 224512429360297500894111664161417903952, 36458470627353973837234628171312649212, 5022705229066439028717100573663358781, 598800467318553220578543576393876006, 62704114234001839013926490911039410, 5833725143990447472382049936337936, 486522949293589761646297958459016, 36626786794247795181280542498000, 2502563281783787905906196609520, 155825029538997754739357951568, 8867589604059661009286685534, 461980354317697139202992100, 22042518924388361710117980, 962048759932310689806480, 38277125985303550291000, 1378644839098973583200, 44358234704146357200, 1243188149736457080, 28874280690790750, 499744650202436, 4861946401452, 0],
 [0, 3456197933690877388665620650833076250660800, 3511790994601235665619436550087221293393732, 1771224622140720377189936852439104272823432, 591010067263241672258126478648372510525384, 146706656065175174117230600460843297345748, 28883631872408955346048815348279377687974, 4695596281311468666585037153989078838988, 647940283101120001974263725794838516094, 77417869299989411896663785509634289712, 8130419854546575657906317330094590034, 759214281893865953344831634815068948, 63609956719261545434343457871585136, 4816130040434652551364765118801776, 331381018974954787948766512630200, 20811632042426963641840174889712, 1196849988422045233063897536708, 63164828177853235510528215216, 3062602705284095728776204340, 136406255332091836102016840, 5571669151677842517120800, 207905102399894450457640, 7034852692218857995580, 212915667243441227000, 5617848568703986420, 122898041015320064, 2003840547211196, 18367353072152, 0],
 [0, 462705648918908727022766742651208300933569252, 469849218346218175792695935012931528665061092, 236886452856521650216690532287470603811399032, 79035900277044063618892497282814247966643524, 19623822024891622675656145224805466890000410, 3865882277703480829778063380722717701976946, 629114603615746911992043066032040770724732, 86939910576911494353051465646040797858113, 10408826254766269136745476666321758935438, 1096009902923219715606000440030033075930, 102686091268186934613166384414696776252, 8639160740255280168090421490536242678, 657441241505178572202616015968909000, 45518274483977188037970265128222792, 2880343846449040875140635391469936, 167170261201191673870732984946706, 8921466822303975666549678153036, 438503062963979832100856015284, 19862389041033174281160725880, 828652634593000384868105460, 31776238197807344787805380, 1115266373950388706794580, 35548298408053171779480, 1014632497326117323550, 25265464008262446852, 521823028155695820, 8033729541916936, 69533550916004, 0],
 [0, 64346383553331759548621062050361883675568209776, 65301446684734729839955921360673715160605885700, 32912043781180516115880259683519176520714754076, 10980104606148868619772332361846328702542310167, 2726865136603664497254583448116014384985742210, 537492832737632813630589123172535526394935272, 87551116710010650382538191958611693743078352, 12115565124408846629347590960967217438488470, 1453208347815534500364822213953043623481516, 153384006677906832788006383616986794425360, 14414140160896769100236380716728582875736, 1217231731471271093438585512584056405154, 93056354322965637399904541812339241100, 6478671574210183260624634295953715616, 412719473767422943995831283939116480, 24147656853007867818509086766018724, 1301294604194424948830382488822040, 64716720257808896508920049986120, 2973615156314422845177397711336, 126258861454178574824316815250, 4949313197952492892139133660, 178685854229635088915010960, 5914381708866139707829920, 178022040836312603619780, 4803054245101099270920, 113126791516195786560, 2210676794312113904, 32204451718583748, 263747951750360, 0],
 [0, 9282174879976728888469344293830513208264454575260, 9414825489208103830323532992770656342068807674360, 4743584211929038880933625239014408898097115089830, 1582448126791303241380817443839201804168085947585, 393078102521666329988217368199140145766193898030, 77520171691386662770060896583555581621443879414, 12638078665706397673288941285747529814914420456, 1751092455964122169749924949578917063069105854, 210392032017592033134660329569763101692396396, 22255242802469833829707676342633991335246732, 2097181682352615234511981576906467868405708, 177702989859752588936918506208210939246998, 13641515255308601907922143851861885975892, 954485456572145438953843595555342125620, 61170057352235099959797686657376472416, 3604711345871675069658907036828865508, 195925596176450775052522270927712688, 9844332463766493179861262919901096, 457940895111586274058203932641124, 19736520364919081027492357301454, 787943716700400717674098339140, 29103088443533227293248538900, 991803920682755888856012240, 31033971593886417194464980, 884122637179095486465384, 22596800854876613230152, 504457174836867327992, 9345911067583102668, 129081554826085352, 1002242216651368, 0],
 [0, 1387132263414370719681832641044046770874629739882054, 1406245505857935728920794653348942732229353806267307, 708318121376735310934712860637518182924812736240382, 236279305844603507135742186835923696687100718598266, 58703213087718619053498698092785146940686467739568, 11582682740390955925012650094479678124920658871442, 1889842031253601845907337161598380815383940846084, 262155062315812781155474834571722556731371010356, 31546887123820573628167804649906448597891135820, 3343740800664063020749671243728021921288008482, 315885522546682300911124316430790932221086708, 26849244161336453609918724878841475769171436, 2068852005755499821392662814982281938328528, 145409931602286281983480344557784596712948, 9369182589206058579650266309339945309800, 555667238281740015739911524880636038712, 30432598021886513091432736472186265972, 1542975721671585386272556506411398250, 72553230581380856827771205022960420, 3167464147031234248887095483688972, 128434692489649631706747132675136, 4834583582737260001587374234220, 168683982222031427389010342040, 5439168730268460076128832440, 161250242687674415305637688, 4357082469660716224467108, 105703051256086467068200, 2240932319755618719192, 39434439536723050720, 517328461520992776, 3814986502092304, 0],
 [0, 214488236045362020134220320951751996627906669224025513, 217341480751670714839576752488489460117398907151618873, 109444032870579542787900966343922368326904793436306718, 36506201215793671954469101507214775129061376506633545, 9071616573354124247266272046496141712666203901342770, 1790727189720947253676938464934219522498588215586426, 292395916549368006399656857294354528253107053643836, 40604291131650912485098904742530119249091219915769, 4893243668127091356742164145309499405305266177434, 519609772957120527402386913712763275591339144398, 49201527930780136099299294424642998520152476420, 4193828814505175931952628009790543237942685882, 324260371539923447649361207974852791577239572, 22884243985337169700151895692739510588577396, 1481691781558398388156720207176394253095992, 88383829489724398471805587738689686709921, 4873618227282154179457163069561317933362, 249091357185035194256372714969587648382, 11824346915706063709023063859323046980, 522056070282481180496725789491452598, 21454078706721372165543923582334572, 820697123662424559959150711884924, 29201740762888310546711651888040, 964739196374350706099878504770, 29497628242666272351687946452, 830232993205964590558431516, 21318515526704818113012104, 491824189058948302180740, 9919528005941965325768, 166090273302735816904, 2073128832586063408, 14544636039226909, 0],
 [0, 34278068711590675331332458160552636439374609955946227390, 34718820578247211943857185735498491807826172158058640936, 17478537025022139548835990911366899846218312037412714824, 5829874783138598670714294960353801346663349380978734816, 1448953804230763577983861163121493890244602369400031240, 286143631450480356168265417935905171007192359161691760, 46755150852631688857770727214204904247952496878741904, 6499276333880349047214838762008972554164847980789896, 784279313149716775566358446710792375092328363926488, 83424710999133281422359430655847085281266521841520, 7916284710105723800997567594392696392652950950384, 676524139684326569353123326810362649931084060864, 52471910991294888708379804439076680861229586256, 3716991413489907993249007115101865397448305824, 241731475429794884859812479539680682371100000, 14494757456490997520897642852879695598290860, 804170877584497696833009624169794208786416, 41397637757846891399347038303469577411760, 1981786476066668196324958708637159318384, 88370066624254689203691489048210469184, 3674383038907113898741851366721339184, 142527279143142587865017060878259104, 5156554336756274923692769733428576, 173835289346476489306152513839280, 5449520317835860352795681412336, 158316645638683298619739970784, 4238445749317378862365405920, 103610975811990811884108480, 2277024481273902412827360, 43763522895628878575584, 698358661755639938528, 8307059966383480541, 55534064877048198, 0],
 [0, 5655847997854335125321304162491726862898966532920060422566, 5726221009750222244382806734935469773073618548638901825126, 2882082379976847284256126021014299147387335716735504058848, 961262902343609217820453378480324194491961267857454789840, 238951920025470415966131647843774281434687790382939768160, 47207758134316984196511198553011276898415046211845365408, 7718668134827870155570047544125133871658379081728415392, 1073947845492927431118831611984940204427162398341988792, 129756410827106266411156770831361543153175655130710864, 13824263993967736706117748931184440467698101811412720, 1314390161444691147097963677557795591790191381400000, 112597237008611669227466024594298375902990100790368, 8758336163601747059414726848862432863795625423616, 622546801211068494191801190037912829573734339776, 40650532166513847297621846821803122235885071840, 2449067708736483287008660582051537495880555700, 136629349263677888698669810235294633269355352, 7079136755239297937841754742557636045290600, 341460477406130283155380283800067470532672, 15361017858833423265240138367192944413280, 645338066234589215230916042744994591296, 25338475090416310445736317978769120960, 930019210873837309531032087915512640, 31895942528988425773699216870022224, 1020910807352814180732069122342880, 30428960539129608415385845040544, 841499270241543257535625825536, 21466624621881687650340619776, 500416188857914005346123104, 10493002929138689809428480, 192479312466384579753744, 2931737518331583516291, 33283773930410970362, 212336130412243110, 0],
 [0, 962536950305571445025012329917078162924716285889390814519416, 974138426132781101762396244557433628133036776283602257153134, 490189377543541631173908886635861063338619647749152835440940, 163486958787627699049112023835273104529863228479021451965664, 40646257509512715403595449793470864025580917715733092245088, 8033156907269637573959311290900600890676785598375524307952, 1314258650396044898302064165146170807102756673988753410016, 183020709336581323370251383750236731556036262621693621840, 22138538533700008004166712771449557130353985582653621952, 2362124962486839310242988331668169950878263000464200144, 224997934992261411370291580240050996686683524972245024, 19317247483272824102333188172231297497845031547986176, 1506580034508383587916975255751553365102523070725152, 107425811524453569060295474179761594226475052466288, 7040588132600213084788872747399693133986170600928, 426011669807275562706509773606524441050758228440, 23886501372331234557626289854645937406684688640, 1244892846363338693994543610701330563495726760, 60456857247317631894018021205093815459142800, 2741298744187224910405522616801972081444672, 116229547064424252895868646094310055668416, 4612859669316403359492368504436734827872, 171453596529215964585987070364065132224, 5968164408665861564772384424331569376, 194436752416104079426457838364240384, 5920441790987300669405725769723808, 168084514182617132454922646778816, 4432427086850372141147437394400, 107917374311318296566147139824, 2402729821044700149010931304, 48142873678255783623353168, 844091288084892721618074, 12289269145202265018352, 133347431852056124558, 812944042149730764, 0],
 [0, 168799482018681045705432275583253549462874580861896563583716342, 170772280208262488920998141748293360827414414064184367130372902, 85915524902352046172933046097451483385694212070530342021612068, 28653379605904706439328447277510844814188183458989372346039502, 7124900047256739710371055917504098051837587643819276432425040, 1408632582441039505930741750867587233925190436821725491953168, 230590581545378081837006854944193972934294460592743133786592, 32137741575901889750985456285624784409915224355424434259464, 3891651873658450713632121149674898276779305588409515141488, 415800553596808601182189714694983596686822985243033855696, 39673312200900923893625902641771825941266945361727556320, 3413176245104980792705357861463960870747184922922747568, 266853267693677118122433085046632740973516237235305680, 19083117099665381356556036502550417291368433260357840, 1254951519691599248355398257696059924060942464273760, 76236207602946914196754581989140024738820022950292, 4294285411140358855402876928732318652757293884280, 225000838211437653667251639376492256145583360520, 10994433021493091336092351666183027356333715120, 502083385590727791126150123839457512057113480, 21464152467891138542713772830412958159675680, 860034102116225340927199791602517687387040, 32323489302991346644610555392195696703680, 1139870012094476297032774034206107438320, 37708257045351580708373639451189877984, 1169253711879343618614242509308305056, 33930749467268685716138193286205120, 919134707389172311188818940349728, 23149265003348561474469836734328, 538752000976740250998505786680, 11473132516557653012800061200, 219977763844098705437632255, 3691509269966983043309962, 51442237674352452971750, 534202671450374228996, 3116285494907301262, 0],
 [0, 30477420476384190552826712138956809980372305353292289537994458148, 30823127233149710408703125168005161693738356117150719496358718736, 15504135650057144062425881065966689157788711755555480126682194040, 5170566405024312062957100208096299733679168815618323037181913782, 1285888013605407713374244260056220244010780877788417693994922052, 254311858446869406367824711535101330091596715277105535748884928, 41652855791762035816427199178036770652994843332558331108825472, 5809664307198512766099551519672389540541540838522063896013168, 704222002626665387738054613938973255530237651064875472126240, 75338775614714193120934147284069925506101430101613008003936, 7199787968816231111850469713921191861660745282775649374560, 620599044844317401909354182473246273891480526347624346248, 48631189700413578400604932234079846941768225283460363888, 3487050545923168759074021697660405376484345407131627200, 230037953149614403288569386733865041107245125830482560, 14025498375493349183006720720751725768342882300091048, 793379687007845187218613343710263601780493037000208, 41772351661245786013266369533732742365349028832640, 2052639351411700509402273351074182806098267912160, 94344756683136719756409858847967014629319813560, 4063323353233132450688403232110486399440237520, 164210884299429581918496137285465804390878080, 6233072352358184727320174942860876813958400, 222343710864615621680167062150160933615200, 7454526875085181966881252020034267372576, 234812612185544493097565555007593038608, 6942339214481537942850484580496908912, 192321667476418427801179660785431364, 4978661174818642335054266924399224, 119940230514910563688436688437280, 2672007896988572143629158362816, 54500964934155554493052429062, 1001254502305795660383345500, 16102626662767098973237488, 215051047334917436633304, 2139926971296404217246, 11959798385860453492, 0],
 [0, 5660824871886905725658475811709447594658227293475185075744007657092, 5723199254630536975905129915283616567087780109646364369106886585180, 2878268826779972640175934141247829353202110346675948058778071054060, 959863497108179324978287870808946685006007456638099677716810788050, 238744559097962531418176076448102638390590476732499800802873629724, 47231682871740165845660096195267481700815107578265572347214884044, 7739845887952550950505542930724460831515760146398569335130528064, 1080316655675923782372767662611442832456515174428864759435449712, 131075743723348438837189586127153418575215494954687072009164096, 14039565573203182323772180226706449932920337435756107963082208, 1343685134979294436700199647951335090505919607704967391492720, 116028315698404374424916172973637654446221086991101054165880, 9111480574844814166942653961833098758956117373227638248848, 654960680866908529104518253289244448960832091905300695696, 43333037619804502923716328501642812913349490174323312320, 2650947153877953119956198134864003476033042490912175560, 150539874669582374707515018808624464466833273361323024, 7961590962824049650141176780883175224005780096461072, 393233042981633199917944323701961037274502111464880, 18180545993910934214989265719341272924962631281320, 788306261074385192786283331618338507057011106480, 32104790745024627444242534801860458712806320880, 1229488323279786414128959506814836008940996480, 44308663994526664844365905713853757143631200, 1503221381997617847257360985637422791077008, 48006848837753982538475486287812129237888, 1442431507621187398839603467929272762904, 40729853435512580915087634180296789980, 1078824803732766092267298741351409928, 26728485791186658388490442044702536, 616778065175216004627681405426336, 13170533568661088401543065125422, 257632625320143795845053684012, 4540718297004353080842390620, 70069801948308075908342364, 897890390993288652444330, 8571667683571477322476, 45950804324621742364, 0],
 [0, 1080778024666718616785114146349044550783245373862220470724366552010620, 1092355586579541628116255747181094007696126055329847165101257819373986, 549266032921594089334695833757714120781048918874767743896492690796212, 183167953852935162679761952602944350877991463654867928705217602265396, 45564811120131013938680756226343656674289265015766531665404674933040, 9016927818719472453107838049776868070093881876152513366950316287324, 1478310773952839163666041362000124709341340252096328664188347701368, 206480375094809449481213594925614906921154072928346169343656886624, 25074829021307809883488647779689070974554719684558564702839814640, 2688805965737963078028908603445214732829780268324112165573218200, 257694553256511612883760629054218444739637373867281808299937136, 22289290219754382285111477496163464153659200176908282224387440, 1753801921179474038424675051198633261914075727074180762028288, 126361523475824737593957147648836080849768333537643274025392, 8382843376021183653610021698109008467772202336960281195360, 514432785311860110028949688671012682260617416826873216176, 29318262771931323750760876083908407882731497432093066352, 1556946960443767320107595931947926129232961022189812584, 77262350483173279405342922578847830042395070141839888, 3591361031063186002120209460646966024883841751101200, 156679264539995021474010384820743333460556526327360, 6425823370093606535015892074584766259428221077360, 248062797075031425891225130796579812160188055520, 9022170824600384370817007431574734072644156960, 309332541987277985577486683409942788959848600, 9999834972807564188172210093934534223955276, 304735176195162745157559496716515653322296, 8748223646591724001943092618919520281272, 236287968772252499403273830058828108480, 5992772987797105731081566578398551800, 142294871594001936152717693188674288, 3149313868699131092612136195673236, 64541219481752586256917699981868, 1212245316311403957168821567402, 20521378975025647804806300260, 304203673012233403773097188, 3744506973490628556864304, 34332621538610531032268, 176733862787006701400, 0],
 [0, 211947189060838288020869015562954662444267358135625713183329201447700270, 214156209503754561531832453152173370237118100145736664392110474147657902, 107666303109143525414870048617722265303502898283706034608687169678131812, 35903445691578615088644975146510481911294464121268360024133442629621310, 8932429158924062476301543405956509675862371942396431178350405790653676, 1768157179839021253622527397231393581654471566157327512485229708799452, 290017916962299318532732199558064390433391692989028964093906383828200, 40533627315830651701203051905370641085229373925436754186584085346918, 4926517253079143223990949367804062942460362431337129094730297596824, 528837572260799810562163023457988211434255813620705431748172375880, 50749646142868105263349782895358875580489790350806241697245187952, 4396456654862408407179657591524918324050315755622327631463408728, 346569749956697795479359693789183376407943412252187695587848304, 25024515089655671533220410078721923176820960216032126720222192, 1664309472439320624552463724987001273676235400012934054304928, 102430795825333265295410995911754622576171898545228706618060, 5857131753277115481853721801005260974967122124130398167976, 312228370554637464945176976174065654632504146180845205912, 15561442663368258506144395452225011931926439761961795408, 726917066882236533906110031863856904322372760072816312, 31891549694624386177027764247455554432328272794782000, 1316333606769549236467261774292579946492246544147440, 51186454526230280218787876257435549957405608662880, 1877164719899830481693844187410007410180367491720, 64972315925681044285613281281964859971888643340, 2123291772846459604728366925787039728303715268, 65519276971937626721194549710304934444788472, 1908347042412270424662232567619959091670012, 52423338273174495914465923552962853963864, 1356363905906747420641923594697574322136, 32983899446472151640438175442544357008, 751558452795097698103070125331705199, 15973382155471190111816331630521178, 314541510013846551689123567414982, 5679132184235859001472057492436, 92442329343264563917783239542, 1317803826471730673878029084, 15598494234049763525111948, 137507220017229130830472, 680425371729975800390, 0],
 [0, 42662773383727615717094006023198277127599609479339485865199490208145762820, 43095717510705987091110691474134534540230163728123422435896188225767696864, 21662946027504156844708965766936719487036535094139384774862983608534976816, 7223775995690301335227657950619807459925062902645171028543756126175208744, 1797415869501201358694685072263096511761804949624539172971581339046704640, 355890043289538978199178237688183116996461994189000603691256352242931280, 58399089910956823924667212985298510836370675311165310254683911823401456, 8166933549240907816962780187511765019425902903656016837733268973513674, 993409282967805492657171366403809048732556212650289665011479165895148, 106744264332590090202151229195879429480588625776504117864318001774976, 10256201065496760789825496730318883401660623163129829367808398733888, 889802352808889548657690128965206382839153841554845233612500056416, 70264258458190587682111732311773680823199173620848463495076296704, 5083811402115042669682105415172764757892080453992889701597643904, 338904392637705636782457053321087952019153393251074838711270144, 20914459396967404952357019100827042903161451057662297473108488, 1199620666871957834581650696410665431569224022587946583499536, 64174523308899446449066256645504551200745394761363803893760, 3211304414750009298966739388988203591800082687704017698880, 150692888377314453259953936299460821705624627286539993280, 6645442373485597003156123991508255251146931296956964128, 275900876302207610583776775269525917094352742879449840, 10799912448566754428685359563759743980074032350943600, 399055916446263568107962195131506212113053988651050, 13930708229486817223352686547856517605569685579900, 459714118325277827263444855848396288217972499904, 14344671519510271545585434430992610720045821728, 423200642025149953767289026987433401757410864, 11799199238420001309252103939288919705949824, 310606019068922216626984601025074620247232, 7708614601889978924758307589306805860608, 179968280742829988216154774178869002518, 3939883259491984807344650951055438300, 80506081418655580798867723980545760, 1524942350922436265689036543199088, 26495700824314883693786299376968, 415137250298667493789220150720, 5696905459775398905856933360, 64910128665928730591138320, 550709305440646499122278, 2622127042276492108820, 0]]
def tR : List (List Nat) := [
 [1, 1, 0],
 [3, 3, 1, 0],
 [26, 26, 11, 2, 0],
 [367, 367, 167, 42, 5, 0],
 [7142, 7142, 3352, 944, 163, 14, 0],
 [176766, 176766, 84308, 25006, 4965, 638, 42, 0],
 [5304356, 5304356, 2554329, 779246, 165474, 24924, 2510, 132, 0],
 [186954535, 186954535, 90600599, 28120586, 6200455, 1010814, 121086, 9908, 429, 0],
 [7566084686, 7566084686, 3683084984, 1156456088, 261067596, 44535120, 5829880, 574128, 39203, 1430, 0],
 [345664350778, 345664350778, 168827939366, 53451185240, 12261047156, 2152775784, 296800444, 32196396, 2671521, 155382, 4862, 0],
 [17592776858796, 17592776858796, 8614829153254, 2744492254980, 636872172064, 114057797312, 16258560654, 1867784308, 171870006, 12246180, 616666, 16796, 0],
 [986961816330662, 986961816330662, 484293663215486, 155035814754284, 36293043764292, 6594216837642, 961983373850, 114714503676, 11232248401, 892710654, 55453618, 2449868, 58786, 0],
 [60502424162842876, 60502424162842876, 29738145498625580, 9557174214422624, 2252700944050637, 413827144973754, 61403767288440, 7515727301856, 766543432854, 65099106820, 4533554432, 248563456, 9740686, 208012, 0],
 [4023421969420255644, 4023421969420255644, 1980374424060741394, 638488516274210810, 151332976750623303, 28042432228817354, 4215411195899334, 525987658653096, 55208702423694, 4899015626388, 365915394416, 22592665316, 1104600562, 38754732, 742900, 0],
 [288464963899330354104, 288464963899330354104, 142154887935609755221, 45954790635529832198, 10941985865275289478, 2041880139604294804, 310119798270892398, 39273635385903588, 4210984126477284, 385459215317928, 30166294995798, 2004294401044, 110795130628, 4872685944, 154276028, 2674440, 0],
 [22180309834307193611287, 22180309834307193611287, 10941576045095917770951, 3545170455147350537050, 847362358421126010231, 159048562375688179878, 24359513431565407094, 3121473123698717652, 340246989402506295, 31874896561467910, 2578799362453594, 179979302214972, 10738359800350, 535876936140, 21357652860, 614429672, 9694845, 0],
 [1820641848410408158704734, 1820641848410408158704734, 898921195912633270337392, 291829524424090490450696, 69981231304881787374672, 13199889247464876978648, 2035784602932449238048, 263390762812486704080, 29090046434060634972, 2774637104691570800, 230130446973826784, 16636218862981936, 1045037233299488, 56441580728880, 2560811924880, 93090807456, 2448023843, 35357670, 0],
 [158897008602951290424279330, 158897008602951290424279330, 78514511179129422511238246, 25532729439089181380054224, 6140093796118461117196536, 1163006659635999425907920, 180425109915147692192032, 23531268202348132423440, 2627013497092343042444, 254200248264868235464, 21495797861246487240, 1595558308157187296, 104002958182696528, 5926352796091392, 291734844762440, 12108567998872, 403750516953, 9756737702, 129644790, 0],
 [14692527957001183808691283388, 14692527957001183808691283388, 7264881478267557849609410202, 2366057671118976720562713180, 570389519931405515473176144, 108430500724390044598743648, 16906486764874216427815128, 2219976677801648388449808, 250073580947822166324552, 24485711876974865065904, 2103022650640459638504, 159356358241161623664, 10680910695000265776, 632594788938530784, 32918579411240268, 1485804883946184, 56719838687454, 1743450545268, 38897306018, 477638700, 0],
 [1434802180134834597393811998402, 1434802180134834597393811998402, 709886717263447271654710543730, 231505205153544644709644006220, 55930288448151713040914724798, 10665990552477860433680223528, 1670316544730836445107030632, 220609209878555480041862256, 25041213505202492674372068, 2476255857194275807678008, 215418747406626536236088, 16596952252076444959776, 1136972759979397974828, 69335383195295669364, 3755886684381600228, 179525005485011736, 7468470405530421, 263477348315262, 7498875187626, 155111585372, 1767263190, 0],
 [147560633135020534591860914170804, 147560633135020534591860914170804, 73047425798406239865312005168608, 23850044453990524956605217639520, 5773101730034851012879295170614, 1104014476590340021358001616668, 173552942743558328685568172064, 23038484770556258494619846400, 2632298786750968501512579480, 262499642700434438579343376, 23082253111615230867175656, 1802920086478738029970496, 125704737557186535795606, 7843689723010222546860, 438033077841319385040, 21826358731377347328, 963166455752277114, 37101937526202540, 1214755313941360, 32139735537120, 618679078298, 6564120420, 0],
 [15941241519915119740478946391897508, 15941241519915119740478946391897508, 7895332469119248005246393278333024, 2580563708322387367993686197531548, 625718730552338571919743055429738, 119955705334638140496446255733948, 18920983649256542139156055421556, 2522856593074152185799944421408, 289903265246269716536446576440, 29120275161661373955467586032, 2584148883328153722938351868, 204183203639726825824690404, 14445069525799344644975506, 918222019791598730195436, 52522782181267731214980, 2701199955749947146288, 124427710257637218402, 5092114269656259756, 182374785902665640, 5562732721756980, 137307305824374, 2468152192772, 24466267020, 0],
 [1804852481464602899728464802565650872, 1804852481464602899728464802565650872, 894300958940893230386336175573875258, 292578778307980645729007576854604044, 71052021493350535388047094528424132, 13651512744558271439814302218090168, 2159770609984229906378546694103020, 289108498023397270243390715731944, 33388691507081306627877566401776, 3375095407684198990456581174704, 301882514533430881596262603546, 24088659785857645980618694956, 1725194574173754817395289188, 111362432762211949651468216, 6494993114922575385928212, 342470172495897053078040, 16300148874589335632412, 697195201458153723096, 26566574431828891654, 887915335022834580, 25317090880894428, 584892218283912, 9848142504068, 91482563640, 0],
 [213704897285312285026309935416995643574, 213704897285312285026309935416995643574, 105933354983788217311775304241341450134, 34687116034780719978661264569873619396, 8435412758726605578098983946437164438, 1623965752990588867644422815382632460, 257615370751385376053826574351315260, 34605388693849362454948609614615096, 4014316378097481246394838365898148, 408049387592057993084707292963538, 36750096424527266929421550370830, 2957519263703747826838923341460, 214046070096256611985506013178, 13997045625074120120551647540, 829614694378738708408617508, 44639414589876798683461368, 2180312120041666281947433, 96457311136752042578142, 3845975254493495833338, 136945133297122286076, 4285412171619399106, 114578104873317316, 2484838743652452, 39301087452632, 343059613650, 0],
 [26412192538124040930863492207428830660908, 26412192538124040930863492207428830660908, 13097360903398139481394537619122295595216, 4292024073476521920477400600453021557296, 1045079311009246677283181396168650048632, 201559579707187000304677931903792227680, 32051680434816437564569316760691773944, 4319017119103483630363488691331290272, 503007307634030028128655945456643221, 51382731120138474867542250940600194, 4655868440502256784958943478236176, 377484602429213315418014450586096, 27569129771233998637003539292008, 1822940765120635202219893587744, 109528381631142490384906909248, 5993461560276674025850313376, 298960296500756300887492158, 13584227012861516722645716, 560763036993759554584048, 20916462757118814064336, 698220808656163231320, 20518922143653909184, 515890546813309008, 10530680503804704, 156861290196878, 1289904147324, 0],
 [3401297896957644434307584706912933668648068, 3401297896957644434307584706912933668648068, 1687220347668401968903133638408206513524540, 553304087129195637964756332340982454003056, 134881292698267867754406284143335227084440, 26056637831001329369415232967495718813408, 4152590079290628157556300476185777161916, 561153949990047236666026973146337036852, 65586934920336657853599043121878048455, 6729358854585579869431326949801632186, 613055838726702664885278337340775618, 50031974953881893261031986039066928, 3683187484157620482387494675227416, 245897271912617747749322824366800, 14947891794169282326288734419200, 829688567492366294692169187312, 42116471122085533747050702234, 1955816559883874866927295100, 82990900309232095984683500, 3207809546570722856556080, 112288039331920608337480, 3524329206981764668880, 97531107631035958440, 2311864040299547880, 44528162106795450, 626155256640188, 4861946401452, 0],
 [455647432106506226516998133568983044679289272, 455647432106506226516998133568983044679289272, 226095617086407674564166256459074984214314236, 74194608697268812966182273302995920973640168, 18105846018782023147248084112639204175204184, 3502967190303756294997991526798166332935760, 559376755706430186813460154389553839265002, 75784731976288747352487334148753494511004, 8886141961872159835737787124345551959002, 915355742085671092640391488727857049212, 83793787278568168074372770321822275950, 6878487947638326583315132090157062356, 509939472145371719164191704611832784, 34333039648162321056142172826172896, 2108350686266262036055529121955080, 118464644486087149873784173954992, 6103313277728761639496499941580, 288615487606277435672506023816, 12525036634912455564554322700, 498022838401492622935690440, 18080829153470039341683680, 595674285799628420217280, 17625871972715180443620, 460479099152014019480, 10315142996190533020, 187891777099461864, 2499759080159300, 18367353072152, 0],
 [63402276834481572008819223016535558032810564204, 63402276834481572008819223016535558032810564204, 31469785592781331640898228136942174865938497476, 10333312124811704488368510733976414445757812128, 2524106417988795709537955050422235960486603274, 489014103542350329183812510627884342503991950, 78231713586243117751359394233846479268998590, 10623690186934233845940190121874823081003092, 1249321947914810866743518381980347788784795, 129153559704211041376718546259367443436298, 11874473344944477223997306959304568450086, 979860312911023409853755138115866852196, 73097851803569706270049062808430839662, 4958360851024186623227587793684199768, 307208543537072003644640841265377912, 17446017936872987707111371742477008, 910354630651496676998171021937942, 43716727614723823713378708058308, 1933070044023324891490501661404, 78661420055755003125770823480, 2939951550736091442230504880, 100538043625861478922019020, 3125536610366097006100620, 87403053757204708665480, 2160614806214647370250, 45839292355541201868, 791301090279952116, 9980668967565048, 69533550916004, 0],
 [9150987727463415903542412527301833849438493683640, 9150987727463415903542412527301833849438493683640, 4543320671955042071996895732625735982881462736932, 1492673075090102447385646603755020755906952283744, 364940257827230482817441586017875394846559382417, 70792030644216322839533850731205813228803414450, 11344194251268776390379877880514966473969612040, 1543814488361591939535612679620347278224953824, 182032921456447661144134310957716948060234434, 18879706259115423834976302221861081180193996, 1742649791129988933461148000790803755671248, 144478707677462009152103783379437905567808, 10838713959713770004322283555225776891006, 740114017557115300837207541741670806604, 46218404516724975959807357137809397536, 2649315529500986179945514856123712128, 139787253483347702246855223261537228, 6802329213549402025196831558559912, 305613033853054282020358281652104, 12678753347118178184812538508736, 485256909540187766981757039870, 17095145146952818674163820220, 552083270409105717364758480, 16234670268672636019554240, 430012023325270679655180, 10079599299558323041416, 202944040556047068096, 3326564779253751168, 39853142319344188, 263747951750360, 0],
 [1368222109244318132392326646880358175875429343785080, 1368222109244318132392326646880358175875429343785080, 679469967182170701751928651293263831333582444604910, 223351713897654199307201706100164391663837878976850, 54652032421431290106567020215287495691435190971755, 10613916858927997373037240554289658777453421004834, 1703473126067721840508170531015086438614537851134, 232278993482333596819729947775932979570441995960, 27455114352078399893305125811273181219440946938, 2856002432901586413728355651299362684041315676, 264561040088399438059369532172959958234891928, 22027799753266327657241986893665996990876836, 1660884839242809368560833776396627426872594, 114090911491004367663378097706801268278892, 7174956873978268982532568132495670164500, 414698094493741569571914969129355202592, 22095502321344154350757330154498670636, 1087693586792498781241083712804106184, 49542666145336000343808968993132972, 2089385983240500377049879267012204, 81572254406445705149583766718554, 2944558763882220196290067115100, 98027956690082703573453126180, 2996733402023890273052373360, 83538728389213932674848380, 2100190271813100619215336, 46771832101307889721152, 895371527645602833000, 13961226886026268036, 159148821325626392, 1002242216651368, 0],
 [211664230634603594983948843493649288151647229697024224, 211664230634603594983948843493649288151647229697024224, 105138549185594612132133505426302620690386299978571085, 34577434559912225467737570257651225986052315390767926, 8467279109633872539200714349253426950781875663631886, 1646199960757853806412994432483500650818954989006724, 264582791278355864559915955731785917313044753544526, 36142872648280701233557615091043748455446299239012, 4281628827128387423456284741180670955007794799116, 446608196090286071366756656289883155364047087640, 41506130896646549773858885163997670676615595182, 3469308190543862432100837629115422614120689700, 262785222333098344265809442723719306824966916, 18148921397827837742760824449605987004291960, 1148576385148024137240582973901693218997388, 66877763569715857017140175289593908152296, 3594286311281862402343119311265872677656, 178742298411771905094306340375602155232, 8239427799438077333492977994634216070, 352444846198236418274759025695937780, 13994580780842778072349391033648868, 515576982562454467783918835712376, 17597376821491128912598713774420, 554904053858863865696145197400, 16092502984868018262797285640, 426133370183982327466738128, 10187812596011842775426940, 215952967642634316702216, 3937497013805280344072, 58502230829298676720, 635593043085854200, 3814986502092304, 0],
 [33841678529909533701834917580861836399563177745566831607, 33841678529909533701834917580861836399563177745566831607, 16813595146932085840850348629955042201467635538171403047, 5532084555393471708670257292488850913783412210339928058, 1355660130630723041470589081536232136364126854225905335, 263830785882985873903223996005803472247013095543854358, 42459861551605291609326287326551221755724481940418598, 5809876337412049193664192694516714604746556246404596, 689685052607835148408066979652795009561681149095095, 72120084608464915102552008323362765590287769908814, 6722684094033782374580984417805326618498250373138, 563915847370605622470781591281142122082446475340, 42892859953318790530956858071374926963524499910, 2976848549139508815308017697044952594275524156, 189470584114256097689904034933578557335591756, 11105756008594595199316809282722603116467624, 601504014189762300697505567221638053960727, 30183540276472817777982351734291080426518, 1406106780510592422140288259151653471842, 60895548596081959362311344430635043340, 2453560084018794782664414028565599818, 91976381606491123912747059003530820, 3205559222716806897600142519145284, 103689656480625319027869209011320, 3103663154905708686714898213470, 85556958341254319224600788348, 2156128080714924879727416996, 49107225463294825524777240, 992453926306785978991612, 17263094387856471614168, 244785546063816876280, 2538557185841324496, 14544636039226909, 0],
 [5586148296065883074075085608826900403294511430657565565310, 5586148296065883074075085608826900403294511430657565565310, 2775935113677146199371876575333173883427568410350809668960, 913738764366299662476006463199225130539914079397583676008, 224065056835319380731792618071964557673423941840042740296, 43647036410436156412215664622322151265352118491812801096, 7033013767700898805705300576533442895851252687068794976, 963838590892916921362433594085362532120580046843871888, 114635430005035654063082858358894703484078443745641248, 12015128185683922779540891066320636769990399529427928, 1123084887253420600397453261960984439489807116550144, 94514561477662483543190348300467032200776417700784, 7216523063963063311849398392172861317343622229200, 503076840329133595576636543489422974416349089872, 32186066381274193347732624217881878111079964544, 1897938331185619023632241140185334180908777248, 103512928484739008673276791290353343658604828, 5236363001661647714845832261027861650606704, 246232895782063889889601257603225968990016, 10780803053906157815276537857881915346224, 439950828891974480947578957462237801392, 16741941060367609130661308019715587248, 593979910066386146905429847863374912, 19628375257532328653930990738483296, 602992538365668905426592541877280, 17166289960767696644817601121520, 450644986266609088154689219584, 10826975578812066279072194400, 235304636767667407739528160, 4541160722609537788117920, 75471208044521179176352, 1022828553190074212928, 10139684107326071075, 55534064877048198, 0],
 [951042911346110840195030037915908131210698821548458416457266, 951042911346110840195030037915908131210698821548458416457266, 472693531674128252534854366876708202173899927507769178017350, 155655770221459343430157186713924244133608769653043425397408, 38193421960370624036475265173227486246555358484076980334640, 7446431811605402963730962358949432410412679443243905108960, 1201246648596655424627471785184276354829665275476827556800, 164862698637476920061565798090180725418750032752140313056, 19643003812831131238249468818256948943386456708801487208, 2063228440815355978570070800696889859884366034495499824, 193347202998824971215891402986552831673119037936478896, 16320267182259748591797604914124399200492812375006016, 1250489751734588120391636769713883634058551749467168, 87530193440459727012628518855352712165812434513600, 5626561234061284282372413714749305664429772077856, 333600962190014385878707501647426188990402515872, 18309401876468783661317853426601441672157340252, 932960833396017669077011343797053186839810856, 44240638007352210021018974086764364087247528, 1955868486953311162272485228642459370629312, 80720400477359043955855247242119595004832, 3112351553263124794791195660710792885312, 112136976683115253616376346271172649728, 3773847895334736659593044708365370816, 118492861852537472919250525852077424, 3463876772941961885822052359282208, 93960229445736450195768586036128, 2353009959503957102977138555392, 53982524616514780194339740352, 1121237930849416984275831744, 20694058066383432630990288, 329066294749830413598768, 4268343196357682307657, 40503202364427236102, 212336130412243110, 0],
 [166844385126365606613286540218771561652888930665795183806797660, 166844385126365606613286540218771561652888930665795183806797660, 82940924088030017584130763944427241744982107189952896496139122, 27322261887299078827456122566623269372283023471223098079661996, 6708018127438884299070553419996852077236100955868486311055264, 1308906233730251320004288279232315794541247545477892971817920, 211376662703456434100115471573140821752611104627026646595472, 29049072256598113789450880040320031551704902718378731755360, 3466851700775258611393601984396732593075268255548747293168, 364870110159853032002594511182943984613247999214117074592, 34273157162615302399842779841149442748289401363146345264, 2901002927284405735418162864498297527037376214789285920, 223000416024345360337322607021520544195891057484753408, 15667936041620964325768416834560711284465078918212864, 1011525429079470052703674398486368422811611131963408, 60273307837001098909558594953773788572342405299808, 3327044981525055364048107637898380964897264668680, 170649018336339988314211639075991560226265084720, 8153473164667152986476963845630312378865577560, 363609490437042857499074749206788516598413200, 15157631659486261280252836400084735056963520, 591253948347573160468919703965845855977088, 21592018240143132162411411721433445468576, 738224285688118643605175792043335245248, 23615445381620944959132863403302921376, 705891238918203335774419159158854080, 19671326403926894474921589261331296, 509292022701466437241328277466944, 12185982447101760885228772524576, 267363977939703060140735694144, 5314886787612825452486285144, 93940547308649203337914640, 1431177300949794366080046, 17790485238330352862484, 161800473327296701298, 812944042149730764, 0],
 [30134722121050000251710694305680863295079936226142465496622883562, 30134722121050000251710694305680863295079936226142465496622883562, 14982961319515659603002631015048804872808530822640284466519583610, 4937396346435799038027210957766837170660372136192033366463070236, 1212870205383361747963569477917346421818669481030375756110364542, 236843365155491408304848206127967115400896259514277276752865008, 38286410851372444765746191701743836224843111978409666720073328, 5268254038418772179973635707268035570131131648798277318302880, 629707932109174262267078606540480199649604648525691773064536, 66396687837030263612899238917206157248854380463363037645008, 6250503596337181289926711776753125897207507487495352250352, 530427549340033880794956551096194754592789500204756217696, 40896186428261079741777554037868577387626879570252388448, 2883308475627392226851707398184970501298438049794587760, 186889657709551079194948165224166982880351558039948720, 11187102707325713189226141914774437705932208318639392, 620759449227132121304421478567398611366954115897852, 32030778919069718065156876269309328625184358408680, 1540916305996075511652999963365389442912614695800, 69258708830770413578197280209941957198264807120, 2913213790463866112105246427187946492096554600, 114815733565387539094242681111832808573306720, 4243253686249836388705859467337265927892320, 147096503657983089033854768510206445239360, 4782208931457989266218508879917114522320, 145693556774540518767429393828440283360, 4153280758814959156117529014509630976, 110519520256874649537158759451900960, 2735313242485927279322163077346280, 62626846037819136832184280586088, 1315919367815685845257148128392, 25069915059320825621246527152, 424899454461349144013952061, 6209748200522740562918782, 74065850898698750576730, 646388949267037074428, 3116285494907301262, 0],
 [5598977400177755114158949912113240486303525712566440283142260452868, 5598977400177755114158949912113240486303525712566440283142260452868, 2784249989850685461803061599987141838161576703606573996802132997360, 917808954205845250464786158273045558822612782496474425768591426208, 225576204638947026600590069301769717416206017685229736410477308042, 44081127646784542907526593818734683536505369773922282674659078852, 7132539938863189199025391593113077215415764816022310830110692800, 982604011488045684665366697368282269332024014392172184908829696, 117618894462035456106117437273780687334878646382451731725000528, 12423247794981882593335320639345366421593011727103296425443040, 1171902579235521720559726602540639316606277407603842095331680, 99687618510982502494435677750597217372743270682020826120704, 7707319211847189281882100669723002125923543783270431395512, 545132320538682452305595883634596604002466404378677465328, 35464366488447776707499353671465482647192727078229792960, 2131821062834973863228355464920338484713892111406544384, 118861444355334966246236629886654590225415436598503864, 6166820351755389239013524068582521438651326723436048, 298524481374863558433050595826236546492824093690880, 13513269984927251179988643489079147585656582360960, 573031531675777533529318506900248238977915722440, 22794608332982895893948030859632439254695043280, 851422044534080156511801255796452402511582080, 29878746097158720634491526891782026005248000, 985236406033355662798806331205047882970400, 30515707806749601644745570762195477974208, 886968497371708449148627643929277330832, 24153921673561628001891188478580899712, 614699373538574644965739424931571100, 14564748484901938522915853936073784, 319536243669443206262052900389152, 6438581069501052986245684256512, 117705411641015026331766434178, 1915286263844226419354969852, 26883287104071492910930128, 308018869751554112505504, 2582439511573240996450, 11959798385860453492, 0],
 [1069295485073901521677863507888127621816419089916846369974845504858452, 1069295485073901521677863507888127621816419089916846369974845504858452, 531817330101007307976102516038209087110880431311685592449550748600680, 175364710282125590333399128707641823514597550400679742693481287338500, 43121610363836404423305798641598498540348860013500948658675804071110, 8432349373345645019665502154157910371068570511372569796191798656612, 1365600802374613748041221012951634622112996672440011665898154171148, 188338445643267654599365845250909591487454509265963727650134183872, 22574824969414387956107537790023141331992343639945644789375456976, 2388278701526496019303863347490188722170647607279642225548889696, 225720295780314758046667376136303530359543211232495515353972560, 19243702746101052338445017809963370947874806708794491580990032, 1491668134260146491812068180167669654780740591757460349124776, 105818447581672470568242462091848615410347654212796868842992, 6907640500487689742949986295001108332242252631397802185296, 416845321308052080923031202780790925552094702632833432640, 23344517730515473624957179642446757039921575778656882520, 1217268857449265912058881265151926680228737252220276880, 59262721265537974297298124796850123097883554381052992, 2700059489616522349850365685050891993361988120241680, 115341322331744457496621068067446547804374300438840, 4626703635134929680077704873719298803781508055120, 174472607911842931240519161004589104396568043120, 6189905094209491469403331574031680247120074880, 206684032122071043969765502800701843257461600, 6495014725101775165015983883473923444553216, 191992051657852204529177803762942332826008, 5332785289633267481137122869449266799560, 138941206500431431510625692911428358452, 3386598381548925882604760645901088568, 76925785927205326344582063484989288, 1619267746323182837293278110976992, 31327802535873963520799897048458, 550220271733723488462328240092, 8605519012164108606390428120, 116137163290278729301372500, 1279648926165851483139726, 10317798247907103532308, 45950804324621742364, 0],
 [209755798071326189940209737795281563525151717115940594318859806605898648, 209755798071326189940209737795281563525151717115940594318859806605898648, 104337510023329735661712311824466259487184235871039186924067720026944014, 34415051478916731344532018692428388493162703271903113252988820735856676, 8466446361498784313799330714667668593095413588257086377273082011265116, 1656655681529169830223913752412944848443484424920443689713572881799944, 268515145068173136047538832697766865294865859984112859674694701144484, 37071173892779094799204427806855713889253139729708620901106340693880, 4449107889853281954442298305606948647488974934701536529614749124064, 471403057195385833884564967853481526729757873530354484474565804160, 44632822817407802400107632007379245575520315384579591977172598952, 3813092441060894483825338491266730076608230465114134528327216432, 296283157317031905911798155184375969322382757603904393335606608, 21076451315175194125129744437554808089901812109768931623939936, 1380189242428265720478933527596869630570552598763910775850832, 83588514596829398858998425329868903314718951015084500121696, 4700354451300513450336775226984993427934171792382763682896, 246230686234626667076930914018469455627856139738581792160, 12050690192371963518120557663031169319173591239249373656, 552302275364641905158576933214907536312664748266292688, 23751996244073431287661700531802985313513483906222640, 960030248238583108835309098626477108982363912148640, 36515953804481276698240850627533353432809426628240, 1308266540625550876661954719693416833625269806560, 44175155981271643782113732870701542561045072960, 1406119406266850376451869017565072339536036640, 42184110164598938110553166698274213483699540, 1192010192288569404532628022382951083694232, 31688393431907380691966733059515551084712, 791040337424677816897366911744690717360, 18491745621747510583136436056195420296, 403192665611303382324350628316028016, 8153056063040670192863529222729804, 151628551343683003037921000819896, 2561392113586188728853038259942, 38547051350708136333834762644, 500713121546735792473012844, 5311066176608172667565288, 41225242187303792386868, 176733862787006701400, 0],
 [42233191546853946979091534323918435823527223486104277955246685540784007826, 42233191546853946979091534323918435823527223486104277955246685540784007826, 21010622178896554345535332654177740580541478063984326121031678169668153778, 6932155323130933261334500067008522403434786654612863152213189231840165292, 1706122255005447433979907504597700034532820939082289279401125515540508370, 334043761862773763778252505890237910524305294992204183875398414582177412, 54185222117308283550325160414046900141407153841634625449508001465253956, 7488152133924180328100376145259358079964668896496756848146110250922072, 899766777120235126195955493212661711191409650438465985506525483386734, 95470349978267163832750271256365674456242252945892136813326822004424, 9054383272518802060875932188856161151378189051455500771859652440760, 775049609114363840937615378672561176358539385257708667282861824080, 60358330247624644639522132981433525064837466242241868798801386344, 4304759507135556633257113491531431287752857729739964705179844432, 282727839798489916984125271267303422238922451249126929256571152, 17180221647255616363393657412572099937473432735539653502423264, 969744510926018483677574605474068666487324833470419965507396, 51018453829452071669539035856606708465361937348540662287608, 2508962337565275343760295225311191527244156401356125784424, 115617577211086204148164118375638203821665908167120030448, 5002806727385897282100986146170659594486973420257911752, 203613793357317178485470291157466794769742888580242640, 7805556530122399650383751223182329106246118899339120, 282140127102297844083325628212597789554516189356160, 9623069690669481827689072998131759983212940862220, 309836198830786053839809152428870102921302934820, 9417841650196346521315225813342509344208241980, 270168513975921737651365143983535911700167656, 7308901321570861104648949795472534901977828, 186226009626158299309886800960433648631304, 4460089045099460113180695913582359822248, 100120165780410086856089429641444693552, 2098008322935560475489101693715635517, 40801511216377659920788835405573646, 730239090026660876734485405148602, 11877073714651837858438909649532, 172165042511554968249079226586, 2154667923467308225170161812, 22022739394620461876108756, 164724234886428162846072, 680425371729975800390, 0],
 [8722268199372149355008094004474619313506070306784986979363906992968579018660, 8722268199372149355008094004474619313506070306784986979363906992968579018660, 4339802712994210869645499999225710518189235348652823746749353751380216627920, 1432235665161168294184796435917191994549668394974900108104485854384816310352, 352643179783416034335021867537563818765657964970190180832405717694070333384, 69083880757545146599958841917388802261146580413509001960772392313579024928, 11214410814673990873544026140854284291564129243980743797966801829088720048, 1551217253054921699334978271880871596366809607113106170610792210977969824, 186602270392995609426288882361946635691304866475242607544513537394321046, 19826148538194966845480678019381652296875440396842954522975585380089708, 1883273925522716135282350665297784324814288418419266485796410621419456, 161502696471829640461836312372900445030336344785705669812008419967680, 12603874617194406639334234636881796802389643468547986703683335102816, 901082481875809006975118808301276186119268432845626266928525772800, 59344158815544172806643362570678750378290661373198414530960676864, 3617356494228608675797417143700399041359905394613701655290868864, 204903256349431439938435005648706943083797000085164176036224920, 10822870408968472646239881561639994128272679354558934033124496, 534624985672028600647679492512740483150191962887277080534720, 24760550650691008115716486098275575365760345690837540875840, 1077462311797049940837487335464368588698013150156676158848, 44131877305701689884644447579281322237732786803339817408, 1703928860555276949158560163080593953935720704835584240, 62088173228394319068468842948307305949624693998092800, 2137010865826148526657645141022815082064610901964550, 69518197975195398341987317835652354798062276532540, 2137980374834945427639793511069070661249715036640, 62158009500358059273198098341506458260434908768, 1707619213601706704557595139661208840728181680, 44290295571605405199665728023233635826578304, 1083036544439513463013787469464823870687616, 24917113721631975689896866723862879046464, 537765597491937398910579972954877287058, 10842342931791133657406824205333584380, 203013519773504377943005095714063120, 3500212524424251346975353478100496, 54868615930605974480175470413928, 766835543413272723956464082080, 9255218239858032372822208720, 91238789232888037614494240, 658216514173982675583898, 2622127042276492108820, 0]]
noncomputable def eqT (A : List (List Nat)) (j m : Nat) : Bool := Nat.beq (nth (row A j) m) (Nat.add (Nat.add (Nat.mul (Nat.add m 1) (nth (row A j) (Nat.add m 1))) (sumN A A j m j)) (dl j m))
noncomputable def eqO (A : List (List Nat)) (j m : Nat) : Bool := Nat.beq (nth (row A j) m) (Nat.add (Nat.add (nth (row A j) (Nat.add m 1)) (sumN A A j m j)) (dl j m))
noncomputable def eqH (A B : List (List Nat)) (j m : Nat) : Bool := Nat.beq (nth (row A j) m) (Nat.add (sumN A B j m j) (dl j m))
noncomputable def eqR (A B : List (List Nat)) (j m : Nat) : Bool := Nat.beq (nth (row B j) m) (Nat.add (Nat.mul (Nat.add m 1) (nth (row B j) (Nat.add m 1))) (nth (row A j) m))
theorem okT : TabOk tT := tabOk_of (by decide +kernel) (by decide +kernel) (by decide +kernel)
theorem okO : TabOk tO := tabOk_of (by decide +kernel) (by decide +kernel) (by decide +kernel)
theorem okH : TabOk tH := tabOk_of (by decide +kernel) (by decide +kernel) (by decide +kernel)
theorem okR : TabOk tR := tabOk_of (by decide +kernel) (by decide +kernel) (by decide +kernel)
theorem allT : allN (fun j => allN (eqT tT j) (j + 2)) 41 = true := by decide +kernel
theorem allO : allN (fun j => allN (eqO tO j) (j + 2)) 41 = true := by decide +kernel
theorem allH : allN (fun j => allN (eqH tH tR j) (j + 2)) 41 = true := by decide +kernel
theorem allR : allN (fun j => allN (eqR tH tR j) (j + 2)) 41 = true := by decide +kernel
abbrev cl (A : List (List Nat)) (j m : Nat) : Int := (((A.getD j []).getD m 0 : Nat) : Int)
theorem cell_T {j m : Nat} (hj : j < 41) (hm : m < j + 2) : ((m : Int) + 1) * cl tT j (m + 1) + pairsM (tk tT j) (tk tT j) j m + (dl j m : Nat) = cl tT j m := by
  have h := Nat.eq_of_beq_eq_true (allN_of (allN_of allT j hj) m hm)
  rw [row_eq, nth_eq, nth_eq] at h
  unfold cl pairsM
  rw [h, sum_eq _ _ _ _ _ (Nat.le_refl _)]
  show _ = ((((m + 1) * (tT.getD j []).getD (m + 1) 0 + sumN tT tT j m j) + dl j m : Nat) : Int)
  rw [Int.natCast_add, Int.natCast_add, Int.natCast_mul]
  rfl
theorem cell_O {j m : Nat} (hj : j < 41) (hm : m < j + 2) : cl tO j (m + 1) + pairsM (tk tO j) (tk tO j) j m + (dl j m : Nat) = cl tO j m := by
  have h := Nat.eq_of_beq_eq_true (allN_of (allN_of allO j hj) m hm)
  rw [row_eq, nth_eq, nth_eq] at h
  unfold cl pairsM
  rw [h, sum_eq _ _ _ _ _ (Nat.le_refl _)]
  show _ = ((((tO.getD j []).getD (m + 1) 0 + sumN tO tO j m j) + dl j m : Nat) : Int)
  rw [Int.natCast_add, Int.natCast_add]
theorem cell_H {j m : Nat} (hj : j < 41) (hm : m < j + 2) : pairsM (tk tH j) (tk tR j) j m + (dl j m : Nat) = cl tH j m := by
  have h := Nat.eq_of_beq_eq_true (allN_of (allN_of allH j hj) m hm)
  rw [row_eq, nth_eq] at h
  unfold cl pairsM
  rw [h, sum_eq _ _ _ _ _ (Nat.le_refl _)]
  show _ = ((sumN tH tR j m j + dl j m : Nat) : Int)
  rw [Int.natCast_add]
theorem cell_R {j m : Nat} (hj : j < 41) (hm : m < j + 2) : ((m : Int) + 1) * cl tR j (m + 1) + cl tH j m = cl tR j m := by
  have h := Nat.eq_of_beq_eq_true (allN_of (allN_of allR j hj) m hm)
  rw [row_eq, row_eq, nth_eq, nth_eq, nth_eq] at h
  unfold cl
  rw [h]
  show _ = (((m + 1) * (tR.getD j []).getD (m + 1) 0 + (tH.getD j []).getD m 0 : Nat) : Int)
  rw [Int.natCast_add, Int.natCast_mul]
  rfl
end Once

/-! L46c: the readings of the defs that make them. -/
namespace Once
open PySem PySem.Spec L2 OD
/-! the readings -/
def fd_table : FD := fun ds M _ Q => ∃ n : Nat, ds = [.int n] ∧ M = [] ∧ n ≤ 40 ∧ Q (lli (tk tT (n + 1))) []
theorem len_table : ∀ ds M ED QD, fd_table ds M ED QD → ds.length = 1 := fun ds M ED QD ⟨_, e, _⟩ => by rw [e]; rfl
def td_table : DS :=
  (dSeq (dAsg (dLst true dNil) (dName 1))
  (dSeq (dFor (diRange1 (dCons (dOp (addD false) (dVar 0) (dC (.int 1))) dNil)) (dName 2) (dSeq (dAsg (dOp (mulD true) (dLst false (dCons (dC (.int 0)) dNil)) (dOp (addD false) (dVar 2) (dC (.int 3)))) (dName 3))
  (dSeq (dFor (diRange3 (dCons (dOp (addD false) (dVar 2) (dC (.int 1))) (dCons (dUn negD (dC (.int 1))) (dCons (dUn negD (dC (.int 1))) dNil)))) (dName 4) (dSetIx (dOp (addD false) (dOp (addD false) (dOp (mulD false) (dOp (addD false) (dVar 4) (dC (.int 1))) (dOp ixD (dVar 3) (dOp (addD false) (dVar 4) (dC (.int 1))))) (dCall0 fd_pairs [0] (dCons (dVar 1) (dCons (dVar 1) (dCons (dVar 2) (dCons (dVar 4) dNil)))))) (dCB intD (dCons (dAndV (dOp (eqD false) (dVar 2) (dC (.int 0))) (dOp (eqD false) (dVar 4) (dC (.int 1)))) dNil))) (dVar 3) (dVar 4)))
  (dFrz 3 (dDrop (dApp (dVar 1) (dVar 3)))))))
  (dRet true (dVar 1))))
/-- the names that a turn of the inner loop is at -/
theorem nm_eq {j i : Nat} (h : i < j + 2) : (0 + (j : Nat) * 1 : Int) + 1 + (i : Nat) * (-1) = ((j + 1 - i : Nat) : Int) := by omega
theorem dl_t {j m : Nat} (h : j = 0) : (if decide ((m : Int) = 1) = true then (1 : Int) else 0) = (dl j m : Nat) := by
  subst h
  by_cases e : m = 1
  · subst e; rfl
  · have h1 : decide ((m : Int) = 1) = false := decide_eq_false (by omega)
    have h2 : Nat.beq m 1 = false := Bool.eq_false_iff.mpr fun z => e (Nat.eq_of_beq_eq_true z)
    rw [h1]
    unfold dl
    rw [h2]
    rfl
theorem dl_f {j m : Nat} (h : j ≠ 0) : (0 : Int) = (dl j m : Nat) := by
  unfold dl
  rw [show Nat.beq j 0 = false from Bool.eq_false_iff.mpr fun z => h (Nat.eq_of_beq_eq_true z)]
  rfl
theorem set_i {xs : List Int} {k : Nat} {v w : Int} {ys : List Int} (e : v = w) (h : xs.set k w = ys) : (xs.map D.int).set k (.int v) = ys.map D.int := by
  subst e
  rw [← h, List.map_set]
theorem app_l {xs ys : List (List Int)} {v : List Int} (h : ys = xs ++ [v]) : xs.map li ++ [li v] = ys.map li := by
  subst h
  rw [List.map_append]
  rfl
theorem rd_table : ∀ ds M ED QD, fd_table ds M ED QD → td_table (outs M QD) (startD ["most", "rows", "size", "row", "names"] ds) M := by
  rintro ds M ED QD ⟨n, rfl, rfl, hn, h⟩
  refine ⟨small1 0 (by decide), fun p hp => ?_⟩
  refine ⟨_, rfl, (n : Int) + 1, rfl, by omega, by omega, fun j sl M => ∃ a b c, sl = [some (.int n), some (.ref p), a, b, c] ∧ M = [(p, .lst ((tk tT j).map li))], ⟨_, _, _, rfl, rfl⟩, fun _ _ _ _ _ => trivial, ?_, ?_⟩
  · rintro j sl M hj ⟨a, b, c, rfl, rfl⟩
    replace hj : j < ((n : Int) + 1).toNat := hj
    have hj : j < 41 := by omega
    refine ⟨small1 1 (by decide), _, rfl, by show -(2 ^ 63) ≤ (0 + (j : Nat) * 1 : Int) + 3; omega, by show (0 + (j : Nat) * 1 : Int) + 3 < 2 ^ 63; omega, ?_, fun q hq => ?_⟩
    · show 1 * ((0 + (j : Nat) * 1 : Int) + 3).toNat ≤ sizeLine
      exact small1 _ (by omega)
    have e0 : (List.replicate ((0 + (j : Nat) * 1 : Int) + 3).toNat [D.int 0]).flatten = (zr tT j 0).map .int := by rw [zero_row, zr_0 okT hj, show ((0 + (j : Nat) * 1 : Int) + 3).toNat = j + 3 by omega]
    refine ⟨_, rfl, (0 + (j : Nat) * 1 : Int) + 1, -1, -1, _, rfl, RgC.neg (by omega) (by omega) (by decide) (by decide), fun i sl M => ∃ c, sl = [some (.int n), some (.ref p), some (.int (0 + (j : Nat) * 1)), some (.ref q), c] ∧ M = [(p, .lst ((tk tT j).map li)), (q, .lst ((zr tT j i).map .int))], ⟨_, rfl, ?_⟩, fun _ _ _ _ _ => trivial, ?_, ?_⟩
    · rw [← e0]; rfl
    · rintro i sl M hi ⟨c, rfl, rfl⟩
      replace hi : i < ((0 + (j : Nat) * 1 : Int) + 1 - -1).toNat := hi
      have hi : i < j + 2 := by omega
      have en := nm_eq hi
      have lz := zr_len okT (i := i) hj
      have e1 : (0 + (j : Nat) * 1 : Int) + 1 + (i : Nat) * (-1) + 1 = ((j + 1 - i + 1 : Nat) : Int) := by omega
      refine ⟨_, rfl, _, rfl, _, rfl, 1, _, rfl, _, atI_i _ e1 (by omega), .inl (.inl ⟨by show -(2 ^ 64) < (0 + (j : Nat) * 1 : Int) + 1 + (i : Nat) * (-1) + 1; omega, by show (0 + (j : Nat) * 1 : Int) + 1 + (i : Nat) * (-1) + 1 < 2 ^ 64; omega⟩),
        _, rfl, _, rfl, _, rfl, _, rfl, rfl, p, p, 0, 0, tk tT j, tk tT j, j, j + 1 - i, ?_, rfl, rfl, okT.rowsOk (by omega), okT.rowsOk (by omega), by rw [okT.len_tk (by omega)]; exact Nat.le_refl _, by rw [okT.len_tk (by omega)]; exact Nat.le_refl _, by omega, by omega, ?_⟩
      · show [D.ref p, D.ref p, D.int (0 + (j : Nat) * 1), D.int ((0 + (j : Nat) * 1 : Int) + 1 + (i : Nat) * (-1))] = _
        rw [en, show (0 + (j : Nat) * 1 : Int) = j by omega]
      have ec := cell_T (m := j + 1 - i) hj (by omega)
      have ev : ∀ z : Int, z = (dl j (j + 1 - i) : Nat) → ((0 + (j : Nat) * 1 : Int) + 1 + (i : Nat) * (-1) + 1) * (zr tT j i).getD (j + 1 - i + 1) 0 + pairsM (tk tT j) (tk tT j) j (j + 1 - i) + z = cl tT j (j + 1 - i) := fun z ez => by
        rw [ez, zr_get (by omega), en]
        exact ec
      refine ⟨_, rfl, _, rfl, ite2 (fun e => ?_) (fun e => ?_)⟩
      · have h0 : j = 0 := by have := of_decide_eq_true e; omega
        refine ⟨_, rfl, _, rfl, _, rfl, 1, _, rfl, j + 1 - i, ?_, _, rfl, ?_⟩
        · show ixN ((zr tT j i).map D.int).length ((0 + (j : Nat) * 1 : Int) + 1 + (i : Nat) * (-1)) = _
          rw [en, List.length_map]
          exact ixN_nat (by omega)
        · exact congrArg (fun z => [(p, N.lst ((tk tT j).map li)), (q, N.lst z)]) (set_i (ev _ (by rw [en]; exact dl_t h0)) (zr_set okT hj hi))
      · have h0 : j ≠ 0 := fun z => e (decide_eq_true (by omega))
        refine ⟨_, rfl, _, rfl, 1, _, rfl, j + 1 - i, ?_, _, rfl, ?_⟩
        · show ixN ((zr tT j i).map D.int).length ((0 + (j : Nat) * 1 : Int) + 1 + (i : Nat) * (-1)) = _
          rw [en, List.length_map]
          exact ixN_nat (by omega)
        · exact congrArg (fun z => [(p, N.lst ((tk tT j).map li)), (q, N.lst z)]) (set_i (ev _ (dl_f h0)) (zr_set okT hj hi))
    · rintro sl M ⟨c, rfl, rfl⟩
      have hl : (tk tT j).length = j := okT.len_tk (by omega)
      refine ⟨q, 1, _, rfl, rfl, _, rfl, ⟨0, _, rfl⟩, _, rfl, 0, _, rfl, ?_, _, _, _, rfl, ?_⟩
      · show ((tk tT j).map li).length < sizeLine
        rw [List.length_map, hl]
        exact small1000 (by omega)
      · refine congrArg (fun z => [(p, N.lst z)]) (app_l ?_)
        rw [tk_succ okT hj, show (itRange ((0 + (j : Nat) * 1 : Int) + 1) (-1) ((0 + (j : Nat) * 1 : Int) + 1 - -1).toNat).n = j + 2 from by show ((0 + (j : Nat) * 1 : Int) + 1 - -1).toNat = j + 2; omega, zr_n]
  · rintro sl M ⟨a, b, c, rfl, rfl⟩
    refine ⟨_, rfl, 0, _, rfl, ?_⟩
    have e : ((n : Int) + 1).toNat = n + 1 := by omega
    refine .none ?_
    show QD (lli (tk tT ((n : Int) + 1).toNat)) []
    rw [e]
    exact h
end Once

/-! L46d: the further readings of the defs that make them. -/
namespace Once
open PySem PySem.Spec L2 OD
theorem cg2 {α β γ : Type} (f : α → β → γ) {a b : α} {c d : β} (h : a = b) (h2 : c = d) : f a c = f b d := by rw [h, h2]
def fd_order_table : FD := fun ds M _ Q => ∃ n : Nat, ds = [.int n] ∧ M = [] ∧ n ≤ 40 ∧ Q (lli (tk tO (n + 1))) []
theorem len_order_table : ∀ ds M ED QD, fd_order_table ds M ED QD → ds.length = 1 := fun ds M ED QD ⟨_, e, _⟩ => by rw [e]; rfl
def td_order_table : DS :=
  (dSeq (dAsg (dLst true dNil) (dName 1))
  (dSeq (dFor (diRange1 (dCons (dOp (addD false) (dVar 0) (dC (.int 1))) dNil)) (dName 2) (dSeq (dAsg (dOp (mulD true) (dLst false (dCons (dC (.int 0)) dNil)) (dOp (addD false) (dVar 2) (dC (.int 3)))) (dName 3))
  (dSeq (dFor (diRange3 (dCons (dOp (addD false) (dVar 2) (dC (.int 1))) (dCons (dUn negD (dC (.int 1))) (dCons (dUn negD (dC (.int 1))) dNil)))) (dName 4) (dSetIx (dOp (addD false) (dOp (addD false) (dOp ixD (dVar 3) (dOp (addD false) (dVar 4) (dC (.int 1)))) (dCall0 fd_pairs [0] (dCons (dVar 1) (dCons (dVar 1) (dCons (dVar 2) (dCons (dVar 4) dNil)))))) (dCB intD (dCons (dAndV (dOp (eqD false) (dVar 2) (dC (.int 0))) (dOp (eqD false) (dVar 4) (dC (.int 1)))) dNil))) (dVar 3) (dVar 4)))
  (dFrz 3 (dDrop (dApp (dVar 1) (dVar 3)))))))
  (dRet true (dVar 1))))
theorem rd_order_table : ∀ ds M ED QD, fd_order_table ds M ED QD → td_order_table (outs M QD) (startD ["most", "rows", "size", "row", "names"] ds) M := by
  rintro ds M ED QD ⟨n, rfl, rfl, hn, h⟩
  refine ⟨small1 0 (by decide), fun p hp => ?_⟩
  refine ⟨_, rfl, (n : Int) + 1, rfl, by omega, by omega, fun j sl M => ∃ a b c, sl = [some (.int n), some (.ref p), a, b, c] ∧ M = [(p, .lst ((tk tO j).map li))], ⟨_, _, _, rfl, rfl⟩, fun _ _ _ _ _ => trivial, ?_, ?_⟩
  · rintro j sl M hj ⟨a, b, c, rfl, rfl⟩
    replace hj : j < ((n : Int) + 1).toNat := hj
    have hj : j < 41 := by omega
    refine ⟨small1 1 (by decide), _, rfl, by show -(2 ^ 63) ≤ (0 + (j : Nat) * 1 : Int) + 3; omega, by show (0 + (j : Nat) * 1 : Int) + 3 < 2 ^ 63; omega, ?_, fun q hq => ?_⟩
    · show 1 * ((0 + (j : Nat) * 1 : Int) + 3).toNat ≤ sizeLine
      exact small1 _ (by omega)
    have e0 : (List.replicate ((0 + (j : Nat) * 1 : Int) + 3).toNat [D.int 0]).flatten = (zr tO j 0).map .int := by rw [zero_row, zr_0 okO hj, show ((0 + (j : Nat) * 1 : Int) + 3).toNat = j + 3 by omega]
    refine ⟨_, rfl, (0 + (j : Nat) * 1 : Int) + 1, -1, -1, _, rfl, RgC.neg (by omega) (by omega) (by decide) (by decide), fun i sl M => ∃ c, sl = [some (.int n), some (.ref p), some (.int (0 + (j : Nat) * 1)), some (.ref q), c] ∧ M = [(p, .lst ((tk tO j).map li)), (q, .lst ((zr tO j i).map .int))], ⟨_, rfl, ?_⟩, fun _ _ _ _ _ => trivial, ?_, ?_⟩
    · rw [← e0]; rfl
    · rintro i sl M hi ⟨c, rfl, rfl⟩
      replace hi : i < ((0 + (j : Nat) * 1 : Int) + 1 - -1).toNat := hi
      have hi : i < j + 2 := by omega
      have en := nm_eq hi
      have lz := zr_len okO (i := i) hj
      have e1 : (0 + (j : Nat) * 1 : Int) + 1 + (i : Nat) * (-1) + 1 = ((j + 1 - i + 1 : Nat) : Int) := by omega
      refine ⟨_, rfl, _, rfl, 1, _, rfl, _, atI_i _ e1 (by omega),
        _, rfl, _, rfl, _, rfl, _, rfl, rfl, p, p, 0, 0, tk tO j, tk tO j, j, j + 1 - i, ?_, rfl, rfl, okO.rowsOk (by omega), okO.rowsOk (by omega), by rw [okO.len_tk (by omega)]; exact Nat.le_refl _, by rw [okO.len_tk (by omega)]; exact Nat.le_refl _, by omega, by omega, ?_⟩
      · show [D.ref p, D.ref p, D.int (0 + (j : Nat) * 1), D.int ((0 + (j : Nat) * 1 : Int) + 1 + (i : Nat) * (-1))] = _
        rw [en, show (0 + (j : Nat) * 1 : Int) = j by omega]
      have ec := cell_O (m := j + 1 - i) hj (by omega)
      have ev : ∀ z : Int, z = (dl j (j + 1 - i) : Nat) → (zr tO j i).getD (j + 1 - i + 1) 0 + pairsM (tk tO j) (tk tO j) j (j + 1 - i) + z = cl tO j (j + 1 - i) := fun z ez => by
        rw [ez, zr_get (by omega)]
        exact ec
      refine ⟨_, rfl, _, rfl, ite2 (fun e => ?_) (fun e => ?_)⟩
      · have h0 : j = 0 := by have := of_decide_eq_true e; omega
        refine ⟨_, rfl, _, rfl, _, rfl, 1, _, rfl, j + 1 - i, ?_, _, rfl, ?_⟩
        · show ixN ((zr tO j i).map D.int).length ((0 + (j : Nat) * 1 : Int) + 1 + (i : Nat) * (-1)) = _
          rw [en, List.length_map]
          exact ixN_nat (by omega)
        · exact congrArg (fun z => [(p, N.lst ((tk tO j).map li)), (q, N.lst z)]) (set_i (ev _ (by rw [en]; exact dl_t h0)) (zr_set okO hj hi))
      · have h0 : j ≠ 0 := fun z => e (decide_eq_true (by omega))
        refine ⟨_, rfl, _, rfl, 1, _, rfl, j + 1 - i, ?_, _, rfl, ?_⟩
        · show ixN ((zr tO j i).map D.int).length ((0 + (j : Nat) * 1 : Int) + 1 + (i : Nat) * (-1)) = _
          rw [en, List.length_map]
          exact ixN_nat (by omega)
        · exact congrArg (fun z => [(p, N.lst ((tk tO j).map li)), (q, N.lst z)]) (set_i (ev _ (dl_f h0)) (zr_set okO hj hi))
    · rintro sl M ⟨c, rfl, rfl⟩
      have hl : (tk tO j).length = j := okO.len_tk (by omega)
      refine ⟨q, 1, _, rfl, rfl, _, rfl, ⟨0, _, rfl⟩, _, rfl, 0, _, rfl, ?_, _, _, _, rfl, ?_⟩
      · show ((tk tO j).map li).length < sizeLine
        rw [List.length_map, hl]
        exact small1000 (by omega)
      · refine congrArg (fun z => [(p, N.lst z)]) (app_l ?_)
        rw [tk_succ okO hj, show (itRange ((0 + (j : Nat) * 1 : Int) + 1) (-1) ((0 + (j : Nat) * 1 : Int) + 1 - -1).toNat).n = j + 2 from by show ((0 + (j : Nat) * 1 : Int) + 1 - -1).toNat = j + 2; omega, zr_n]
  · rintro sl M ⟨a, b, c, rfl, rfl⟩
    refine ⟨_, rfl, 0, _, rfl, ?_⟩
    have e : ((n : Int) + 1).toNat = n + 1 := by omega
    refine .none ?_
    show QD (lli (tk tO ((n : Int) + 1).toNat)) []
    rw [e]
    exact h
def fd_rest_table : FD := fun ds M _ Q => ∃ n : Nat, ds = [.int n] ∧ M = [] ∧ n ≤ 40 ∧ Q (lli (tk tR (n + 1))) []
theorem len_rest_table : ∀ ds M ED QD, fd_rest_table ds M ED QD → ds.length = 1 := fun ds M ED QD ⟨_, e, _⟩ => by rw [e]; rfl
def td_rest_table : DS :=
  (dSeq (dAsg (dLst true dNil) (dName 1))
  (dSeq (dAsg (dLst true dNil) (dName 2))
  (dSeq (dFor (diRange1 (dCons (dOp (addD false) (dVar 0) (dC (.int 1))) dNil)) (dName 3) (dSeq (dAsg (dOp (mulD true) (dLst false (dCons (dC (.int 0)) dNil)) (dOp (addD false) (dVar 3) (dC (.int 3)))) (dName 4))
  (dSeq (dAsg (dOp (mulD true) (dLst false (dCons (dC (.int 0)) dNil)) (dOp (addD false) (dVar 3) (dC (.int 3)))) (dName 5))
  (dSeq (dFor (diRange3 (dCons (dOp (addD false) (dVar 3) (dC (.int 1))) (dCons (dUn negD (dC (.int 1))) (dCons (dUn negD (dC (.int 1))) dNil)))) (dName 6) (dSeq (dSetIx (dOp (addD false) (dCall0 fd_pairs [0, 1] (dCons (dVar 1) (dCons (dVar 2) (dCons (dVar 3) (dCons (dVar 6) dNil))))) (dCB intD (dCons (dAndV (dOp (eqD false) (dVar 3) (dC (.int 0))) (dOp (eqD false) (dVar 6) (dC (.int 1)))) dNil))) (dVar 4) (dVar 6))
  (dSetIx (dOp (addD false) (dOp (mulD false) (dOp (addD false) (dVar 6) (dC (.int 1))) (dOp ixD (dVar 5) (dOp (addD false) (dVar 6) (dC (.int 1))))) (dOp ixD (dVar 4) (dVar 6))) (dVar 5) (dVar 6))))
  (dFrz 4 (dSeq (dDrop (dApp (dVar 1) (dVar 4)))
  (dFrz 5 (dDrop (dApp (dVar 2) (dVar 5))))))))))
  (dRet true (dVar 2)))))
theorem rd_rest_table : ∀ ds M ED QD, fd_rest_table ds M ED QD → td_rest_table (outs M QD) (startD ["most", "heads", "rows", "size", "head", "row", "names"] ds) M := by
  rintro ds M ED QD ⟨n, rfl, rfl, hn, h⟩
  refine ⟨small1 0 (by decide), fun p' hp' => ?_⟩
  refine ⟨small1 0 (by decide), fun p hp => ?_⟩
  refine ⟨_, rfl, (n : Int) + 1, rfl, by omega, by omega, fun j sl M => ∃ a b c d, sl = [some (.int n), some (.ref p'), some (.ref p), a, b, c, d] ∧ M = [(p', .lst ((tk tH j).map li)), (p, .lst ((tk tR j).map li))], ⟨_, _, _, _, rfl, rfl⟩, fun _ _ _ _ _ => trivial, ?_, ?_⟩
  · rintro j sl M hj ⟨a, b, c, d, rfl, rfl⟩
    replace hj : j < ((n : Int) + 1).toNat := hj
    have hj : j < 41 := by omega
    have hb : 1 * ((0 + (j : Nat) * 1 : Int) + 3).toNat ≤ sizeLine := small1 _ (by omega)
    refine ⟨small1 1 (by decide), _, rfl, by show -(2 ^ 63) ≤ (0 + (j : Nat) * 1 : Int) + 3; omega, by show (0 + (j : Nat) * 1 : Int) + 3 < 2 ^ 63; omega, hb, fun q' hq' => ?_⟩
    refine ⟨small1 1 (by decide), _, rfl, by show -(2 ^ 63) ≤ (0 + (j : Nat) * 1 : Int) + 3; omega, by show (0 + (j : Nat) * 1 : Int) + 3 < 2 ^ 63; omega, hb, fun q hq => ?_⟩
    have e0 : ∀ A, TabOk A → (List.replicate ((0 + (j : Nat) * 1 : Int) + 3).toNat [D.int 0]).flatten = (zr A j 0).map .int := fun A oA => by rw [zero_row, zr_0 oA hj, show ((0 + (j : Nat) * 1 : Int) + 3).toNat = j + 3 by omega]
    refine ⟨_, rfl, (0 + (j : Nat) * 1 : Int) + 1, -1, -1, _, rfl, RgC.neg (by omega) (by omega) (by decide) (by decide), fun i sl M => ∃ c, sl = [some (.int n), some (.ref p'), some (.ref p), some (.int (0 + (j : Nat) * 1)), some (.ref q'), some (.ref q), c] ∧ M = [(p', .lst ((tk tH j).map li)), (p, .lst ((tk tR j).map li)), (q', .lst ((zr tH j i).map .int)), (q, .lst ((zr tR j i).map .int))], ⟨_, rfl, ?_⟩, fun _ _ _ _ _ => trivial, ?_, ?_⟩
    · rw [← e0 tH okH, ← e0 tR okR]; rfl
    · rintro i sl M hi ⟨c, rfl, rfl⟩
      replace hi : i < ((0 + (j : Nat) * 1 : Int) + 1 - -1).toNat := hi
      have hi : i < j + 2 := by omega
      have en := nm_eq hi
      have lz := zr_len okH (i := i) hj
      have lz' := zr_len okH (i := i + 1) hj
      have lz2 := zr_len okR (i := i) hj
      have e1 : (0 + (j : Nat) * 1 : Int) + 1 + (i : Nat) * (-1) + 1 = ((j + 1 - i + 1 : Nat) : Int) := by omega
      refine ⟨_, rfl, _, rfl, _, rfl, _, rfl, rfl, p', p, 0, 1, tk tH j, tk tR j, j, j + 1 - i, ?_, rfl, rfl, okH.rowsOk (by omega), okR.rowsOk (by omega), by rw [okH.len_tk (by omega)]; exact Nat.le_refl _, by rw [okR.len_tk (by omega)]; exact Nat.le_refl _, by omega, by omega, ?_⟩
      · show [D.ref p', D.ref p, D.int (0 + (j : Nat) * 1), D.int ((0 + (j : Nat) * 1 : Int) + 1 + (i : Nat) * (-1))] = _
        rw [en, show (0 + (j : Nat) * 1 : Int) = j by omega]
      have ec := cell_H (m := j + 1 - i) hj (by omega)
      have ec2 := cell_R (m := j + 1 - i) hj (by omega)
      have ev : ∀ z : Int, z = (dl j (j + 1 - i) : Nat) → ((zr tH j i).map D.int).set (j + 1 - i) (.int (pairsM (tk tH j) (tk tR j) j (j + 1 - i) + z)) = (zr tH j (i + 1)).map D.int := fun z ez => set_i (by rw [ez]; exact ec) (zr_set okH hj hi)
      have ix : ixN ((zr tH j i).map D.int).length ((0 + (j : Nat) * 1 : Int) + 1 + (i : Nat) * (-1)) = some (j + 1 - i) := by
        rw [en, List.length_map]
        exact ixN_nat (by omega)
      have ix2 : ixN ((zr tR j i).map D.int).length ((0 + (j : Nat) * 1 : Int) + 1 + (i : Nat) * (-1)) = some (j + 1 - i) := by
        rw [en, List.length_map]
        exact ixN_nat (by omega)
      have ev2 : ((zr tR j i).map D.int).set (j + 1 - i) (.int (((0 + (j : Nat) * 1 : Int) + 1 + (i : Nat) * (-1) + 1) * (zr tR j i).getD (j + 1 - i + 1) 0 + (zr tH j (i + 1)).getD (j + 1 - i) 0)) = (zr tR j (i + 1)).map D.int := by
        refine set_i ?_ (zr_set okR hj hi)
        rw [zr_get (by omega), zr_get (by omega), en]
        exact ec2
      have at2 : atI ((zr tH j (i + 1)).map D.int) ((0 + (j : Nat) * 1 : Int) + 1 + (i : Nat) * (-1)) = some (.int ((zr tH j (i + 1)).getD (j + 1 - i) 0)) := atI_i _ en (by omega)
      refine ⟨_, rfl, _, rfl, ite2 (fun e => ?_) (fun e => ?_)⟩
      · have h0 : j = 0 := by have := of_decide_eq_true e; omega
        have ev1 := ev _ (by rw [← dl_t (m := j + 1 - i) h0, ← en])
        refine ⟨_, rfl, _, rfl, _, rfl, 2, _, rfl, j + 1 - i, ix, ?_⟩
        refine ⟨_, rfl, _, rfl, _, rfl, 3, _, rfl, _, atI_i _ e1 (by omega), .inl (.inl ⟨by show -(2 ^ 64) < (0 + (j : Nat) * 1 : Int) + 1 + (i : Nat) * (-1) + 1; omega, by show (0 + (j : Nat) * 1 : Int) + 1 + (i : Nat) * (-1) + 1 < 2 ^ 64; omega⟩), _, rfl, _, rfl, 2, _, rfl, _, (congrArg (fun z => atI z ((0 + (j : Nat) * 1 : Int) + 1 + (i : Nat) * (-1))) ev1).trans at2, ?_⟩
        refine ⟨_, rfl, _, rfl, 3, _, rfl, j + 1 - i, ix2, _, rfl, ?_⟩
        exact cg2 (fun y z => [(p', N.lst ((tk tH j).map li)), (p, N.lst ((tk tR j).map li)), (q', N.lst y), (q, N.lst z)]) ev1 ev2
      · have h0 : j ≠ 0 := fun z => e (decide_eq_true (by omega))
        have ev1 := ev _ (dl_f h0)
        refine ⟨_, rfl, _, rfl, 2, _, rfl, j + 1 - i, ix, ?_⟩
        refine ⟨_, rfl, _, rfl, _, rfl, 3, _, rfl, _, atI_i _ e1 (by omega), .inl (.inl ⟨by show -(2 ^ 64) < (0 + (j : Nat) * 1 : Int) + 1 + (i : Nat) * (-1) + 1; omega, by show (0 + (j : Nat) * 1 : Int) + 1 + (i : Nat) * (-1) + 1 < 2 ^ 64; omega⟩), _, rfl, _, rfl, 2, _, rfl, _, (congrArg (fun z => atI z ((0 + (j : Nat) * 1 : Int) + 1 + (i : Nat) * (-1))) ev1).trans at2, ?_⟩
        refine ⟨_, rfl, _, rfl, 3, _, rfl, j + 1 - i, ix2, _, rfl, ?_⟩
        exact cg2 (fun y z => [(p', N.lst ((tk tH j).map li)), (p, N.lst ((tk tR j).map li)), (q', N.lst y), (q, N.lst z)]) ev1 ev2
    · rintro sl M ⟨c, rfl, rfl⟩
      have hl : (tk tH j).length = j := okH.len_tk (by omega)
      have hl2 : (tk tR j).length = j := okR.len_tk (by omega)
      have es : (itRange ((0 + (j : Nat) * 1 : Int) + 1) (-1) ((0 + (j : Nat) * 1 : Int) + 1 - -1).toNat).n = j + 2 := by show ((0 + (j : Nat) * 1 : Int) + 1 - -1).toNat = j + 2; omega
      refine ⟨q', 2, _, rfl, rfl, _, rfl, ⟨0, _, rfl⟩, _, rfl, 0, _, rfl, ?_, ?_⟩
      · show ((tk tH j).map li).length < sizeLine
        rw [List.length_map, hl]
        exact small1000 (by omega)
      refine ⟨q, 2, _, rfl, rfl, _, rfl, ⟨1, _, rfl⟩, _, rfl, 1, _, rfl, ?_, _, _, _, _, rfl, ?_⟩
      · show ((tk tR j).map li).length < sizeLine
        rw [List.length_map, hl2]
        exact small1000 (by omega)
      · refine cg2 (fun y z => [(p', N.lst y), (p, N.lst z)]) (app_l ?_) (app_l ?_)
        · rw [tk_succ okH hj, es, zr_n]
        · rw [tk_succ okR hj, es, zr_n]
  · rintro sl M ⟨a, b, c, d, rfl, rfl⟩
    refine ⟨_, rfl, 1, _, rfl, ?_⟩
    have e : ((n : Int) + 1).toNat = n + 1 := by omega
    refine .none ?_
    show QD (lli (tk tR ((n : Int) + 1).toNat)) []
    rw [e]
    exact h
def fd_check_counts : FD := fun ds M _ Q => ∃ i k : Nat, ds = [.int i, .int k] ∧ M = [] ∧ i ≤ 40 ∧ k ≤ 40 ∧ Q .non []
theorem len_check_counts : ∀ ds M ED QD, fd_check_counts ds M ED QD → ds.length = 2 := fun ds M ED QD ⟨_, _, e, _⟩ => by rw [e]; rfl
def td_check_counts : DS :=
  (dSeq (dDrop (dCall0 fd_check_number [] (dCons (dVar 0) (dCons (dC (.int 0)) (dCons (dC (.int 40)) dNil)))))
  (dDrop (dCall0 fd_check_number [] (dCons (dVar 1) (dCons (dC (.int 0)) (dCons (dC (.int 40)) dNil))))))
theorem rd_check_counts : ∀ ds M ED QD, fd_check_counts ds M ED QD → td_check_counts (outs M QD) (startD ["size", "names"] ds) M := by
  rintro ds M ED QD ⟨i, k, rfl, rfl, h1, h2, h⟩
  refine ⟨_, rfl, rfl, i, 0, 40, rfl, rfl, by omega, by omega, ?_⟩
  exact ⟨_, rfl, rfl, k, 0, 40, rfl, rfl, by omega, by omega, .none h⟩
theorem fac_small {n : Nat} (h : n ≤ 100) : ((fac n : Nat) : Int).natAbs.log2 < 100000 := by
  have h1 : ∀ n, n ≤ 100 → (fac n).log2 < 100000 := by decide +kernel
  exact h1 n h
def fd_many : FD := fun ds M _ Q => ∃ i k : Nat, ds = [.int i, .int k] ∧ M = [] ∧ i ≤ 40 ∧ k ≤ 40 ∧ Q (.int (if k ≤ i + 1 then cl tT i k * (fac k : Nat) else 0)) []
theorem len_many : ∀ ds M ED QD, fd_many ds M ED QD → ds.length = 2 := fun ds M ED QD ⟨_, _, e, _⟩ => by rw [e]; rfl
def td_many : DS :=
  (dSeq (dDrop (dCall0 fd_check_counts [] (dCons (dVar 0) (dCons (dVar 1) dNil))))
  (dRet false (dIf (dTest (dOp leD (dVar 1) (dOp (addD false) (dVar 0) (dC (.int 1))))) (dOp (mulD false) (dOp ixD (dOp ixD (dCall0 fd_table [] (dCons (dVar 0) dNil)) (dVar 0)) (dVar 1)) (dCall0 fd_factorial_of [] (dCons (dVar 1) dNil))) (dC (.int 0)))))
theorem rd_many : ∀ ds M ED QD, fd_many ds M ED QD → td_many (outs M QD) (startD ["size", "names"] ds) M := by
  rintro ds M ED QD ⟨i, k, rfl, rfl, h1, h2, h⟩
  refine ⟨_, rfl, _, rfl, rfl, i, k, rfl, rfl, h1, h2, ?_⟩
  refine ⟨_, rfl, _, rfl, _, rfl, ite2 (fun e => ?_) (fun e => ?_)⟩
  · have hk : k ≤ i + 1 := by have := of_decide_eq_true e; omega
    rw [if_pos hk] at h
    have l1 : (tk tT (i + 1)).length = i + 1 := okT.len_tk (by omega)
    have l2 : ((tk tT (i + 1)).getD i []).length = i + 3 := by rw [tk_getD (by omega), List.length_map, (okT.rows i (by omega)).1]
    have hg : ((tk tT (i + 1)).getD i []).getD k 0 = cl tT i k := by rw [tk_getD (by omega), zi_getD]
    refine ⟨_, rfl, rfl, i, rfl, rfl, h1, _, rfl, _, atI_l i rfl (by omega), _, rfl, _, atI_i k rfl (by omega), _, rfl, rfl, k, rfl, rfl, by omega, mul_big ?_ (fac_small (by omega)), .none ?_⟩
    · rw [hg, Int.natAbs_natCast]
      exact Nat.lt_trans (okT.small i k) (by decide)
    · rw [hg]
      exact h
  · have hk : ¬k ≤ i + 1 := fun z => e (decide_eq_true (by omega))
    rw [if_neg hk] at h
    exact .none h
def fd_many_rests : FD := fun ds M _ Q => ∃ i k : Nat, ds = [.int i, .int k] ∧ M = [] ∧ i ≤ 40 ∧ k ≤ 40 ∧ Q (.int (if k ≤ i + 1 then cl tR i k * (fac k : Nat) else 0)) []
theorem len_many_rests : ∀ ds M ED QD, fd_many_rests ds M ED QD → ds.length = 2 := fun ds M ED QD ⟨_, _, e, _⟩ => by rw [e]; rfl
def td_many_rests : DS :=
  (dSeq (dDrop (dCall0 fd_check_counts [] (dCons (dVar 0) (dCons (dVar 1) dNil))))
  (dRet false (dIf (dTest (dOp leD (dVar 1) (dOp (addD false) (dVar 0) (dC (.int 1))))) (dOp (mulD false) (dOp ixD (dOp ixD (dCall0 fd_rest_table [] (dCons (dVar 0) dNil)) (dVar 0)) (dVar 1)) (dCall0 fd_factorial_of [] (dCons (dVar 1) dNil))) (dC (.int 0)))))
theorem rd_many_rests : ∀ ds M ED QD, fd_many_rests ds M ED QD → td_many_rests (outs M QD) (startD ["size", "names"] ds) M := by
  rintro ds M ED QD ⟨i, k, rfl, rfl, h1, h2, h⟩
  refine ⟨_, rfl, _, rfl, rfl, i, k, rfl, rfl, h1, h2, ?_⟩
  refine ⟨_, rfl, _, rfl, _, rfl, ite2 (fun e => ?_) (fun e => ?_)⟩
  · have hk : k ≤ i + 1 := by have := of_decide_eq_true e; omega
    rw [if_pos hk] at h
    have l1 : (tk tR (i + 1)).length = i + 1 := okR.len_tk (by omega)
    have l2 : ((tk tR (i + 1)).getD i []).length = i + 3 := by rw [tk_getD (by omega), List.length_map, (okR.rows i (by omega)).1]
    have hg : ((tk tR (i + 1)).getD i []).getD k 0 = cl tR i k := by rw [tk_getD (by omega), zi_getD]
    refine ⟨_, rfl, rfl, i, rfl, rfl, h1, _, rfl, _, atI_l i rfl (by omega), _, rfl, _, atI_i k rfl (by omega), _, rfl, rfl, k, rfl, rfl, by omega, mul_big ?_ (fac_small (by omega)), .none ?_⟩
    · rw [hg, Int.natAbs_natCast]
      exact Nat.lt_trans (okR.small i k) (by decide)
    · rw [hg]
      exact h
  · have hk : ¬k ≤ i + 1 := fun z => e (decide_eq_true (by omega))
    rw [if_neg hk] at h
    exact .none h
def fd_many_in_order : FD := fun ds M _ Q => ∃ i k : Nat, ds = [.int i, .int k] ∧ M = [] ∧ i ≤ 40 ∧ k ≤ 40 ∧ Q (.int (if k ≤ i + 1 then cl tO i k else 0)) []
theorem len_many_in_order : ∀ ds M ED QD, fd_many_in_order ds M ED QD → ds.length = 2 := fun ds M ED QD ⟨_, _, e, _⟩ => by rw [e]; rfl
def td_many_in_order : DS :=
  (dSeq (dDrop (dCall0 fd_check_counts [] (dCons (dVar 0) (dCons (dVar 1) dNil))))
  (dRet false (dIf (dTest (dOp leD (dVar 1) (dOp (addD false) (dVar 0) (dC (.int 1))))) (dOp ixD (dOp ixD (dCall0 fd_order_table [] (dCons (dVar 0) dNil)) (dVar 0)) (dVar 1)) (dC (.int 0)))))
theorem rd_many_in_order : ∀ ds M ED QD, fd_many_in_order ds M ED QD → td_many_in_order (outs M QD) (startD ["size", "names"] ds) M := by
  rintro ds M ED QD ⟨i, k, rfl, rfl, h1, h2, h⟩
  refine ⟨_, rfl, _, rfl, rfl, i, k, rfl, rfl, h1, h2, ?_⟩
  refine ⟨_, rfl, _, rfl, _, rfl, ite2 (fun e => ?_) (fun e => ?_)⟩
  · have hk : k ≤ i + 1 := by have := of_decide_eq_true e; omega
    rw [if_pos hk] at h
    have l1 : (tk tO (i + 1)).length = i + 1 := okO.len_tk (by omega)
    have l2 : ((tk tO (i + 1)).getD i []).length = i + 3 := by rw [tk_getD (by omega), List.length_map, (okO.rows i (by omega)).1]
    have hg : ((tk tO (i + 1)).getD i []).getD k 0 = cl tO i k := by rw [tk_getD (by omega), zi_getD]
    refine ⟨_, rfl, rfl, i, rfl, rfl, h1, _, rfl, _, atI_l i rfl (by omega), _, rfl, _, atI_i k rfl (by omega), .none ?_⟩
    rw [hg]
    exact h
  · have hk : ¬k ≤ i + 1 := fun z => e (decide_eq_true (by omega))
    rw [if_neg hk] at h
    exact .none h
end Once

/-! L51a: the law's own tables. -/
namespace Once
open PySem PySem.Spec L2 OD
def fd_law_is_number : FD := fun ds M _ Q => ∃ i : Int, ds = [.int i] ∧ M = [] ∧ Q (.bl true) []
theorem len_law_is_number : ∀ ds M ED QD, fd_law_is_number ds M ED QD → ds.length = 1 := fun ds M ED QD ⟨ns, e, _⟩ => by rw [e]; rfl
def td_law_is_number : DS :=
  (dRet false (dAndV (dCB isiD (dCons (dVar 0) (dCons (dC (.ty "int")) dNil))) (dNotV (dCB isiD (dCons (dVar 0) (dCons (dC (.ty "bool")) dNil))))))
theorem rd_law_is_number : ∀ ds M ED QD, fd_law_is_number ds M ED QD → td_law_is_number (outs M QD) (startD ["_law_thing"] ds) M := by
  rintro ds M ED QD ⟨i, rfl, rfl, h⟩
  refine ⟨_, rfl, "int", true, rfl, (by decide +kernel), true, rfl, ?_⟩
  exact iteT ⟨_, rfl, "int", false, rfl, (by decide +kernel), false, rfl, .none h⟩
def cB : List (List Nat) := [
 [1],
 [1, 1],
 [1, 2, 1],
 [1, 3, 3, 1],
 [1, 4, 6, 4, 1],
 [1, 5, 10, 10, 5, 1],
 [1, 6, 15, 20, 15, 6, 1],
 [1, 7, 21, 35, 35, 21, 7, 1],
 [1, 8, 28, 56, 70, 56, 28, 8, 1],
 [1, 9, 36, 84, 126, 126, 84, 36, 9, 1],
 [1, 10, 45, 120, 210, 252, 210, 120, 45, 10, 1],
 [1, 11, 55, 165, 330, 462, 462, 330, 165, 55, 11, 1],
 [1, 12, 66, 220, 495, 792, 924, 792, 495, 220, 66, 12, 1],
 [1, 13, 78, 286, 715, 1287, 1716, 1716, 1287, 715, 286, 78, 13, 1],
 [1, 14, 91, 364, 1001, 2002, 3003, 3432, 3003, 2002, 1001, 364, 91, 14, 1],
 [1, 15, 105, 455, 1365, 3003, 5005, 6435, 6435, 5005, 3003, 1365, 455, 105, 15, 1],
 [1, 16, 120, 560, 1820, 4368, 8008, 11440, 12870, 11440, 8008, 4368, 1820, 560, 120, 16, 1],
 [1, 17, 136, 680, 2380, 6188, 12376, 19448, 24310, 24310, 19448, 12376, 6188, 2380, 680, 136, 17, 1],
 [1, 18, 153, 816, 3060, 8568, 18564, 31824, 43758, 48620, 43758, 31824, 18564, 8568, 3060, 816, 153, 18, 1],
 [1, 19, 171, 969, 3876, 11628, 27132, 50388, 75582, 92378, 92378, 75582, 50388, 27132, 11628, 3876, 969, 171, 19, 1]]
def c1 : List (List Nat) := [
 [1],
 [1, 1],
 [1, 1, 1],
 [1, 1, 1, 1],
 [1, 1, 1, 1, 1],
 [1, 1, 1, 1, 1, 1],
 [1, 1, 1, 1, 1, 1, 1],
 [1, 1, 1, 1, 1, 1, 1, 1],
 [1, 1, 1, 1, 1, 1, 1, 1, 1],
 [1, 1, 1, 1, 1, 1, 1, 1, 1, 1],
 [1, 1, 1, 1, 1, 1, 1, 1, 1, 1, 1],
 [1, 1, 1, 1, 1, 1, 1, 1, 1, 1, 1, 1],
 [1, 1, 1, 1, 1, 1, 1, 1, 1, 1, 1, 1, 1],
 [1, 1, 1, 1, 1, 1, 1, 1, 1, 1, 1, 1, 1, 1],
 [1, 1, 1, 1, 1, 1, 1, 1, 1, 1, 1, 1, 1, 1, 1],
 [1, 1, 1, 1, 1, 1, 1, 1, 1, 1, 1, 1, 1, 1, 1, 1],
 [1, 1, 1, 1, 1, 1, 1, 1, 1, 1, 1, 1, 1, 1, 1, 1, 1],
 [1, 1, 1, 1, 1, 1, 1, 1, 1, 1, 1, 1, 1, 1, 1, 1, 1, 1],
 [1, 1, 1, 1, 1, 1, 1, 1, 1, 1, 1, 1, 1, 1, 1, 1, 1, 1, 1],
 [1, 1, 1, 1, 1, 1, 1, 1, 1, 1, 1, 1, 1, 1, 1, 1, 1, 1, 1, 1]]
def hW0 : List (List Nat) := [
 [0, 1],
 [1, 2, 2],
 [10, 18, 20, 12],
 [145, 260, 316, 264, 120],
 [2810, 5110, 6600, 6456, 4464, 1680],
 [68890, 127300, 171260, 183600, 154320, 92640, 30240],
 [2060300, 3860980, 5337720, 6059400, 5695200, 4258080, 2283840, 665280],
 [73199525, 138733000, 195316280, 230081520, 231824400, 196660800, 133640640, 65278080, 17297280],
 [3025596250, 5784842150, 8244450000, 9952849200, 10492663200, 9635080800, 7512220800, 4708932480, 2123493120, 518918400],
 [143010830950, 275277905300, 395619323500, 485621916000, 527813680800, 510674472000, 434400523200, 315191520000, 184224257280, 77483589120, 17643225600],
 [7619468982500, 14742529020700, 21312907711800, 26469549837000, 29387202168000, 29469919214400, 26570260886400, 21171509251200, 14427129024000, 7927672435200, 3134630016000, 670442572800],
 [452074404170250, 878213519155000, 1275119245517000, 1597231093518000, 1800751421682000, 1852426448208000, 1739178925948800, 1476316332691200, 1110895210656000, 715967683200000, 372283077196800, 139264605849600, 28158588057600],
 [29565444709810500, 57616820595277500, 83933704567590000, 105822816978138000, 120693274572132000, 126515569887900000, 122309715739680000, 108558148700332800, 87406852960627200, 62499689284032000, 38309732068608000, 18949000247654400, 6741018256896000, 1295295050649600],
 [2113002153930784500, 4128277075764633000, 6029714360679015000, 7641428956359780000, 8794153782006684000, 9352312715297736000, 9242166517218360000, 8475341280477120000, 7161008395157568000, 5500000647453312000, 3755572069721472000, 2199315622952448000, 1039318639988428800, 353123539459891200, 64764752532480000],
 [163824947074413975000, 320739173332462185000, 469478608619779230000, 597474733970213730000, 692622756607874280000, 745053228229012248000, 748947738431359152000, 704048546100770640000, 616469414406975360000, 498450744624615552000, 366824230686321408000, 240158513432597760000, 134873351241108480000, 61116257703313612800, 19904447714818867200, 3497296636753920000],
 [13693560517185331078125, 26855913426024382650000, 39381408643402776390000, 50295085643632925340000, 58656861237188568420000, 63688508067045236400000, 64902732883820224848000, 62210713725877846752000, 55982180924350037280000, 47035447521381285120000, 36544300318552916736000, 25863147420127041024000, 16289244593143441920000, 8800930483540715520000, 3836011466308589568000, 1201261456162639872000, 202843204931727360000],
 [1227388716585208270016250, 2410687870646401831743750, 3540525390373175148900000, 4535345315798376267420000, 5316395903244557971560000, 5817604710528700288920000, 5995572305628192789600000, 5837956258702010919840000, 5368367832847224528960000, 4646156485027599622080000, 3760169489510511813120000, 2816665100821344148992000, 1922807196657321182208000, 1168329214741928279040000, 608943505135574568960000, 255984966098555645952000, 77286419604272406528000, 12576278705767096320000],
 [0, 0, 0, 0, 0, 0, 0, 0, 0, 0, 0, 0, 0, 0, 0, 0, 0, 0, 0],
 [0, 0, 0, 0, 0, 0, 0, 0, 0, 0, 0, 0, 0, 0, 0, 0, 0, 0, 0, 0],
 [0, 0, 0, 0, 0, 0, 0, 0, 0, 0, 0, 0, 0, 0, 0, 0, 0, 0, 0, 0, 0],
 [0, 0, 0, 0, 0, 0, 0, 0, 0, 0, 0, 0, 0, 0, 0, 0, 0, 0, 0, 0, 0, 0],
 [0, 0, 0, 0, 0, 0, 0, 0, 0, 0, 0, 0, 0, 0, 0, 0, 0, 0, 0, 0, 0, 0, 0],
 [0, 0, 0, 0, 0, 0, 0, 0, 0, 0, 0, 0, 0, 0, 0, 0, 0, 0, 0, 0, 0, 0, 0, 0],
 [0, 0, 0, 0, 0, 0, 0, 0, 0, 0, 0, 0, 0, 0, 0, 0, 0, 0, 0, 0, 0, 0, 0, 0, 0],
 [0, 0, 0, 0, 0, 0, 0, 0, 0, 0, 0, 0, 0, 0, 0, 0, 0, 0, 0, 0, 0, 0, 0, 0, 0, 0],
 [0, 0, 0, 0, 0, 0, 0, 0, 0, 0, 0, 0, 0, 0, 0, 0, 0, 0, 0, 0, 0, 0, 0, 0, 0, 0, 0],
 [0, 0, 0, 0, 0, 0, 0, 0, 0, 0, 0, 0, 0, 0, 0, 0, 0, 0, 0, 0, 0, 0, 0, 0, 0, 0, 0, 0],
 [0, 0, 0, 0, 0, 0, 0, 0, 0, 0, 0, 0, 0, 0, 0, 0, 0, 0, 0, 0, 0, 0, 0, 0, 0, 0, 0, 0, 0],
 [0, 0, 0, 0, 0, 0, 0, 0, 0, 0, 0, 0, 0, 0, 0, 0, 0, 0, 0, 0, 0, 0, 0, 0, 0, 0, 0, 0, 0, 0],
 [0, 0, 0, 0, 0, 0, 0, 0, 0, 0, 0, 0, 0, 0, 0, 0, 0, 0, 0, 0, 0, 0, 0, 0, 0, 0, 0, 0, 0, 0, 0],
 [0, 0, 0, 0, 0, 0, 0, 0, 0, 0, 0, 0, 0, 0, 0, 0, 0, 0, 0, 0, 0, 0, 0, 0, 0, 0, 0, 0, 0, 0, 0, 0],
 [0, 0, 0, 0, 0, 0, 0, 0, 0, 0, 0, 0, 0, 0, 0, 0, 0, 0, 0, 0, 0, 0, 0, 0, 0, 0, 0, 0, 0, 0, 0, 0, 0],
 [0, 0, 0, 0, 0, 0, 0, 0, 0, 0, 0, 0, 0, 0, 0, 0, 0, 0, 0, 0, 0, 0, 0, 0, 0, 0, 0, 0, 0, 0, 0, 0, 0, 0],
 [0, 0, 0, 0, 0, 0, 0, 0, 0, 0, 0, 0, 0, 0, 0, 0, 0, 0, 0, 0, 0, 0, 0, 0, 0, 0, 0, 0, 0, 0, 0, 0, 0, 0, 0],
 [0, 0, 0, 0, 0, 0, 0, 0, 0, 0, 0, 0, 0, 0, 0, 0, 0, 0, 0, 0, 0, 0, 0, 0, 0, 0, 0, 0, 0, 0, 0, 0, 0, 0, 0, 0],
 [0, 0, 0, 0, 0, 0, 0, 0, 0, 0, 0, 0, 0, 0, 0, 0, 0, 0, 0, 0, 0, 0, 0, 0, 0, 0, 0, 0, 0, 0, 0, 0, 0, 0, 0, 0, 0],
 [0, 0, 0, 0, 0, 0, 0, 0, 0, 0, 0, 0, 0, 0, 0, 0, 0, 0, 0, 0, 0, 0, 0, 0, 0, 0, 0, 0, 0, 0, 0, 0, 0, 0, 0, 0, 0, 0],
 [0, 0, 0, 0, 0, 0, 0, 0, 0, 0, 0, 0, 0, 0, 0, 0, 0, 0, 0, 0, 0, 0, 0, 0, 0, 0, 0, 0, 0, 0, 0, 0, 0, 0, 0, 0, 0, 0, 0],
 [0, 0, 0, 0, 0, 0, 0, 0, 0, 0, 0, 0, 0, 0, 0, 0, 0, 0, 0, 0, 0, 0, 0, 0, 0, 0, 0, 0, 0, 0, 0, 0, 0, 0, 0, 0, 0, 0, 0, 0],
 [0, 0, 0, 0, 0, 0, 0, 0, 0, 0, 0, 0, 0, 0, 0, 0, 0, 0, 0, 0, 0, 0, 0, 0, 0, 0, 0, 0, 0, 0, 0, 0, 0, 0, 0, 0, 0, 0, 0, 0, 0],
 [0, 0, 0, 0, 0, 0, 0, 0, 0, 0, 0, 0, 0, 0, 0, 0, 0, 0, 0, 0, 0, 0, 0, 0, 0, 0, 0, 0, 0, 0, 0, 0, 0, 0, 0, 0, 0, 0, 0, 0, 0, 0]]
def rW0 : List (List Nat) := [
 [1, 1, 0],
 [5, 4, 2, 0],
 [60, 50, 32, 12, 0],
 [1105, 960, 700, 384, 120, 0],
 [27120, 24310, 19200, 12600, 6144, 1680, 0],
 [828250, 759360, 632060, 460800, 277200, 122880, 30240, 0],
 [30220800, 28160500, 24299520, 18961800, 12902400, 7207200, 2949120, 665280, 0],
 [1282031525, 1208832000, 1070099000, 874782720, 644701200, 412876800, 216216000, 82575360, 17297280, 0],
 [61999046400, 58973450150, 53188608000, 44944158000, 34991308800, 24498645600, 14863564800, 7351344000, 2642411520, 518918400, 0],
 [3366961243750, 3223950412800, 2948672507500, 2553053184000, 2067431268000, 1539617587200, 1028943115200, 594542592000, 279351072000, 95126814720, 17643225600, 0],
 [202903221120000, 195283752137500, 180541223116800, 159228315405000, 132758765568000, 103371563400000, 73901644185600, 47331383299200, 26159874048000, 11732745024000, 3805072588800, 670442572800, 0],
 [13437880555850250, 12985806151680000, 12107592632525000, 10832473387008000, 9235242293490000, 7434490871808000, 5582064423600000, 3842885497651200, 2366569164960000, 1255673954304000, 539706271104000, 167423193907200, 28158588057600, 0],
 [970217083619328000, 940651638909517500, 883034818314240000, 799101113746650000, 693278296768512000, 572585022196380000, 446069452308480000, 323759736568800000, 215201587868467200, 127794734907840000, 65295045623808000, 26985313555200000, 8036313307545600, 1295295050649600, 0],
 [75849500508999712500, 73736498355068928000, 69608221279304295000, 63578506918625280000, 55937077962265500000, 47142924180258816000, 37790611464961080000, 28548444947742720000, 20073103667265600000, 12912095272108032000, 7412094624654720000, 3656522554933248000, 1457206931980800000, 417888291992371200, 64764752532480000, 0],
 [6383483988812390400000, 6219659041737976425000, 5898919868405514240000, 5429441259785735010000, 4831966525815521280000, 4139343769207647000000, 3394290540978634752000, 2645342802547275600000, 1941294256446504960000, 1324824842039529600000, 826374097414914048000, 459549866728592640000, 219391353295994880000, 84518002054886400000, 23401744351572787200, 3497296636753920000, 0],
 [575440151532675686278125, 561746591015490355200000, 534890677589465972550000, 495509268946063196160000, 445214183302430270820000, 386557322065241702400000, 322868813998196466000000, 257966081114376241152000, 195755367388498394400000, 139773186464148357120000, 92737738942767072000000, 56193438624214155264000, 30330291204087114240000, 14041046610943672320000, 5240116127402956800000, 1404104661094367232000, 202843204931727360000, 0],
 [55318762960656722780160000, 54091374244071514510143750, 51680686373425112678400000, 48140160983051937529500000, 43604815667253561262080000, 38288419764009003290520000, 32470815053480303001600000, 26475242747852110212000000, 20637286489150099292160000, 15268918656302874763200000, 10622762171275275141120000, 6862592681764763328000000, 4045927580943419179008000, 2123120384286097996800000, 954791169544169717760000, 345847664408595148800000, 89862698310039502848000, 12576278705767096320000, 0],
 [0, 0, 0, 0, 0, 0, 0, 0, 0, 0, 0, 0, 0, 0, 0, 0, 0, 0, 0, 0],
 [0, 0, 0, 0, 0, 0, 0, 0, 0, 0, 0, 0, 0, 0, 0, 0, 0, 0, 0, 0, 0],
 [0, 0, 0, 0, 0, 0, 0, 0, 0, 0, 0, 0, 0, 0, 0, 0, 0, 0, 0, 0, 0, 0],
 [0, 0, 0, 0, 0, 0, 0, 0, 0, 0, 0, 0, 0, 0, 0, 0, 0, 0, 0, 0, 0, 0, 0],
 [0, 0, 0, 0, 0, 0, 0, 0, 0, 0, 0, 0, 0, 0, 0, 0, 0, 0, 0, 0, 0, 0, 0, 0],
 [0, 0, 0, 0, 0, 0, 0, 0, 0, 0, 0, 0, 0, 0, 0, 0, 0, 0, 0, 0, 0, 0, 0, 0, 0],
 [0, 0, 0, 0, 0, 0, 0, 0, 0, 0, 0, 0, 0, 0, 0, 0, 0, 0, 0, 0, 0, 0, 0, 0, 0, 0],
 [0, 0, 0, 0, 0, 0, 0, 0, 0, 0, 0, 0, 0, 0, 0, 0, 0, 0, 0, 0, 0, 0, 0, 0, 0, 0, 0],
 [0, 0, 0, 0, 0, 0, 0, 0, 0, 0, 0, 0, 0, 0, 0, 0, 0, 0, 0, 0, 0, 0, 0, 0, 0, 0, 0, 0],
 [0, 0, 0, 0, 0, 0, 0, 0, 0, 0, 0, 0, 0, 0, 0, 0, 0, 0, 0, 0, 0, 0, 0, 0, 0, 0, 0, 0, 0],
 [0, 0, 0, 0, 0, 0, 0, 0, 0, 0, 0, 0, 0, 0, 0, 0, 0, 0, 0, 0, 0, 0, 0, 0, 0, 0, 0, 0, 0, 0],
 [0, 0, 0, 0, 0, 0, 0, 0, 0, 0, 0, 0, 0, 0, 0, 0, 0, 0, 0, 0, 0, 0, 0, 0, 0, 0, 0, 0, 0, 0, 0],
 [0, 0, 0, 0, 0, 0, 0, 0, 0, 0, 0, 0, 0, 0, 0, 0, 0, 0, 0, 0, 0, 0, 0, 0, 0, 0, 0, 0, 0, 0, 0, 0],
 [0, 0, 0, 0, 0, 0, 0, 0, 0, 0, 0, 0, 0, 0, 0, 0, 0, 0, 0, 0, 0, 0, 0, 0, 0, 0, 0, 0, 0, 0, 0, 0, 0],
 [0, 0, 0, 0, 0, 0, 0, 0, 0, 0, 0, 0, 0, 0, 0, 0, 0, 0, 0, 0, 0, 0, 0, 0, 0, 0, 0, 0, 0, 0, 0, 0, 0, 0],
 [0, 0, 0, 0, 0, 0, 0, 0, 0, 0, 0, 0, 0, 0, 0, 0, 0, 0, 0, 0, 0, 0, 0, 0, 0, 0, 0, 0, 0, 0, 0, 0, 0, 0, 0],
 [0, 0, 0, 0, 0, 0, 0, 0, 0, 0, 0, 0, 0, 0, 0, 0, 0, 0, 0, 0, 0, 0, 0, 0, 0, 0, 0, 0, 0, 0, 0, 0, 0, 0, 0, 0],
 [0, 0, 0, 0, 0, 0, 0, 0, 0, 0, 0, 0, 0, 0, 0, 0, 0, 0, 0, 0, 0, 0, 0, 0, 0, 0, 0, 0, 0, 0, 0, 0, 0, 0, 0, 0, 0],
 [0, 0, 0, 0, 0, 0, 0, 0, 0, 0, 0, 0, 0, 0, 0, 0, 0, 0, 0, 0, 0, 0, 0, 0, 0, 0, 0, 0, 0, 0, 0, 0, 0, 0, 0, 0, 0, 0],
 [0, 0, 0, 0, 0, 0, 0, 0, 0, 0, 0, 0, 0, 0, 0, 0, 0, 0, 0, 0, 0, 0, 0, 0, 0, 0, 0, 0, 0, 0, 0, 0, 0, 0, 0, 0, 0, 0, 0],
 [0, 0, 0, 0, 0, 0, 0, 0, 0, 0, 0, 0, 0, 0, 0, 0, 0, 0, 0, 0, 0, 0, 0, 0, 0, 0, 0, 0, 0, 0, 0, 0, 0, 0, 0, 0, 0, 0, 0, 0],
 [0, 0, 0, 0, 0, 0, 0, 0, 0, 0, 0, 0, 0, 0, 0, 0, 0, 0, 0, 0, 0, 0, 0, 0, 0, 0, 0, 0, 0, 0, 0, 0, 0, 0, 0, 0, 0, 0, 0, 0, 0],
 [0, 0, 0, 0, 0, 0, 0, 0, 0, 0, 0, 0, 0, 0, 0, 0, 0, 0, 0, 0, 0, 0, 0, 0, 0, 0, 0, 0, 0, 0, 0, 0, 0, 0, 0, 0, 0, 0, 0, 0, 0, 0],
 [0, 0, 0, 0, 0, 0, 0, 0, 0, 0, 0, 0, 0, 0, 0, 0, 0, 0, 0, 0, 0, 0, 0, 0, 0, 0, 0, 0, 0, 0, 0, 0, 0, 0, 0, 0, 0, 0, 0, 0, 0, 0, 0]]
def hW1 : List (List Nat) := [
 [0, 1],
 [0, 1, 2],
 [0, 4, 10, 12],
 [0, 33, 82, 132, 120],
 [0, 438, 1040, 1752, 2232, 1680],
 [0, 8150, 18580, 30876, 42600, 46320, 30240],
 [0, 195698, 433182, 704100, 980496, 1183680, 1141920, 665280],
 [0, 5753337, 12477682, 19912596, 27513240, 34115760, 37245600, 32639040, 17297280],
 [0, 199914718, 427433440, 673114224, 921407904, 1146700800, 1303908480, 1312940160, 1061746560, 518918400],
 [0, 8008472046, 16948767292, 26441979696, 35932037664, 44636774400, 51426483840, 54554109120, 51330706560, 38741794560, 17643225600],
 [0, 363118552288, 762704776628, 1182021400344, 1597996452096, 1980772006560, 2292530758560, 2483834270400, 2485904843520, 2206136217600, 1567315008000, 670442572800],
 [0, 18374489899690, 38372437905268, 59181838182696, 79727029825968, 98677991345040, 114466930644960, 125276842998720, 128937413404800, 122716753125120, 103439198016000, 69632302924800, 28158588057600],
 [0, 1026133165591716, 2133245710715416, 3278222629320456, 4405565260364808, 5448544949173680, 6331446846322560, 6972234388680960, 7283867329831680, 7171801560000000, 6529504562380800, 5256053581363200, 3370509128448000, 1295295050649600],
 [0, 62673121298772856, 129817750476217928, 198939655630305588, 266899574556876792, 329995806410562000, 384118261435916640, 424962917888261760, 448260091219664640, 449921007246896640, 426006880371072000, 372721466326809600, 287778914296473600, 176561769729945600, 64764752532480000],
 [0, 4155188028110843662, 8581032058040517254, 13121083046572045716, 17582044014091570992, 21739361997472849920, 25347132410088443040, 28152242365389992640, 29911439924994378240, 30407988773817930240, 29462432533158643200, 26933973904572134400, 22728728117865369600, 16892796230992281600, 9952223857409433600, 3497296636753920000],
 [0, 297157744115358069385, 612129359307732319602, 934326128777078976756, 1250869117024442660184, 1546977814355488477680, 1806625127285556141600, 2013465930732483151680, 2151996148483578633600, 2208815337753873273600, 2173749315817007577600, 2040506284911263769600, 1806774698159278848000, 1474993147206458880000, 1058449747364545536000, 600630728081319936000, 202843204931727360000],
 [0, 22799456585141618029950, 46865245280723597970608, 71427595227380045712048, 95562841621377659554368, 118221795584421786043200, 138275469536430462831360, 154578772353608186492160, 166050359670847590167040, 171762946571854578124800, 171032744868745290854400, 163490114299849311744000, 149111609626413110476800, 128215689487993755648000, 101514744888986677248000, 70512974298731188224000, 38643209802136203264000, 12576278705767096320000],
 [0, 0, 0, 0, 0, 0, 0, 0, 0, 0, 0, 0, 0, 0, 0, 0, 0, 0, 0],
 [0, 0, 0, 0, 0, 0, 0, 0, 0, 0, 0, 0, 0, 0, 0, 0, 0, 0, 0, 0],
 [0, 0, 0, 0, 0, 0, 0, 0, 0, 0, 0, 0, 0, 0, 0, 0, 0, 0, 0, 0, 0],
 [0, 0, 0, 0, 0, 0, 0, 0, 0, 0, 0, 0, 0, 0, 0, 0, 0, 0, 0, 0, 0, 0],
 [0, 0, 0, 0, 0, 0, 0, 0, 0, 0, 0, 0, 0, 0, 0, 0, 0, 0, 0, 0, 0, 0, 0],
 [0, 0, 0, 0, 0, 0, 0, 0, 0, 0, 0, 0, 0, 0, 0, 0, 0, 0, 0, 0, 0, 0, 0, 0],
 [0, 0, 0, 0, 0, 0, 0, 0, 0, 0, 0, 0, 0, 0, 0, 0, 0, 0, 0, 0, 0, 0, 0, 0, 0],
 [0, 0, 0, 0, 0, 0, 0, 0, 0, 0, 0, 0, 0, 0, 0, 0, 0, 0, 0, 0, 0, 0, 0, 0, 0, 0],
 [0, 0, 0, 0, 0, 0, 0, 0, 0, 0, 0, 0, 0, 0, 0, 0, 0, 0, 0, 0, 0, 0, 0, 0, 0, 0, 0],
 [0, 0, 0, 0, 0, 0, 0, 0, 0, 0, 0, 0, 0, 0, 0, 0, 0, 0, 0, 0, 0, 0, 0, 0, 0, 0, 0, 0],
 [0, 0, 0, 0, 0, 0, 0, 0, 0, 0, 0, 0, 0, 0, 0, 0, 0, 0, 0, 0, 0, 0, 0, 0, 0, 0, 0, 0, 0],
 [0, 0, 0, 0, 0, 0, 0, 0, 0, 0, 0, 0, 0, 0, 0, 0, 0, 0, 0, 0, 0, 0, 0, 0, 0, 0, 0, 0, 0, 0],
 [0, 0, 0, 0, 0, 0, 0, 0, 0, 0, 0, 0, 0, 0, 0, 0, 0, 0, 0, 0, 0, 0, 0, 0, 0, 0, 0, 0, 0, 0, 0],
 [0, 0, 0, 0, 0, 0, 0, 0, 0, 0, 0, 0, 0, 0, 0, 0, 0, 0, 0, 0, 0, 0, 0, 0, 0, 0, 0, 0, 0, 0, 0, 0],
 [0, 0, 0, 0, 0, 0, 0, 0, 0, 0, 0, 0, 0, 0, 0, 0, 0, 0, 0, 0, 0, 0, 0, 0, 0, 0, 0, 0, 0, 0, 0, 0, 0],
 [0, 0, 0, 0, 0, 0, 0, 0, 0, 0, 0, 0, 0, 0, 0, 0, 0, 0, 0, 0, 0, 0, 0, 0, 0, 0, 0, 0, 0, 0, 0, 0, 0, 0],
 [0, 0, 0, 0, 0, 0, 0, 0, 0, 0, 0, 0, 0, 0, 0, 0, 0, 0, 0, 0, 0, 0, 0, 0, 0, 0, 0, 0, 0, 0, 0, 0, 0, 0, 0],
 [0, 0, 0, 0, 0, 0, 0, 0, 0, 0, 0, 0, 0, 0, 0, 0, 0, 0, 0, 0, 0, 0, 0, 0, 0, 0, 0, 0, 0, 0, 0, 0, 0, 0, 0, 0],
 [0, 0, 0, 0, 0, 0, 0, 0, 0, 0, 0, 0, 0, 0, 0, 0, 0, 0, 0, 0, 0, 0, 0, 0, 0, 0, 0, 0, 0, 0, 0, 0, 0, 0, 0, 0, 0],
 [0, 0, 0, 0, 0, 0, 0, 0, 0, 0, 0, 0, 0, 0, 0, 0, 0, 0, 0, 0, 0, 0, 0, 0, 0, 0, 0, 0, 0, 0, 0, 0, 0, 0, 0, 0, 0, 0],
 [0, 0, 0, 0, 0, 0, 0, 0, 0, 0, 0, 0, 0, 0, 0, 0, 0, 0, 0, 0, 0, 0, 0, 0, 0, 0, 0, 0, 0, 0, 0, 0, 0, 0, 0, 0, 0, 0, 0],
 [0, 0, 0, 0, 0, 0, 0, 0, 0, 0, 0, 0, 0, 0, 0, 0, 0, 0, 0, 0, 0, 0, 0, 0, 0, 0, 0, 0, 0, 0, 0, 0, 0, 0, 0, 0, 0, 0, 0, 0],
 [0, 0, 0, 0, 0, 0, 0, 0, 0, 0, 0, 0, 0, 0, 0, 0, 0, 0, 0, 0, 0, 0, 0, 0, 0, 0, 0, 0, 0, 0, 0, 0, 0, 0, 0, 0, 0, 0, 0, 0, 0],
 [0, 0, 0, 0, 0, 0, 0, 0, 0, 0, 0, 0, 0, 0, 0, 0, 0, 0, 0, 0, 0, 0, 0, 0, 0, 0, 0, 0, 0, 0, 0, 0, 0, 0, 0, 0, 0, 0, 0, 0, 0, 0]]
def rW1 : List (List Nat) := [
 [1, 1, 0],
 [3, 3, 2, 0],
 [26, 26, 22, 12, 0],
 [367, 367, 334, 252, 120, 0],
 [7142, 7142, 6704, 5664, 3912, 1680, 0],
 [176766, 176766, 168616, 150036, 119160, 76560, 30240, 0],
 [5304356, 5304356, 5108658, 4675476, 3971376, 2990880, 1807200, 665280, 0],
 [186954535, 186954535, 181201198, 168723516, 148810920, 121297680, 87181920, 49936320, 17297280, 0],
 [7566084686, 7566084686, 7366169968, 6938736528, 6265622304, 5344214400, 4197513600, 2893605120, 1580664960, 518918400, 0],
 [345664350778, 345664350778, 337655878732, 320707111440, 294265131744, 258333094080, 213696319680, 162269835840, 107715726720, 56385020160, 17643225600, 0],
 [17592776858796, 17592776858796, 17229658306508, 16466953529880, 15284932129536, 13686935677440, 11706163670880, 9413632912320, 6929798641920, 4443893798400, 2237757580800, 670442572800, 0],
 [986961816330662, 986961816330662, 968587326430972, 930214888525704, 871033050343008, 791306020517040, 692628029172000, 578161098527040, 452884255528320, 323946842123520, 201230088998400, 97790890982400, 28158588057600, 0],
 [60502424162842876, 60502424162842876, 59476290997251160, 57343045286535744, 54064822657215288, 49659257396850480, 44210712447676800, 37879265601354240, 30907031212673280, 23623163882841600, 16451362322841600, 9921857760460800, 4665804179097600, 1295295050649600, 0],
 [4023421969420255644, 4023421969420255644, 3960748848121482788, 3830931097645264860, 3631991442014959272, 3365091867458082480, 3035096061047520480, 2650977799611603840, 2226014881723342080, 1777754790503677440, 1327833783256780800, 901826902885708800, 529105436558899200, 241326522262425600, 64764752532480000, 0],
 [288464963899330354104, 288464963899330354104, 284309775871219510442, 275728743813178993188, 262607660766606947472, 245025616752515376480, 223286254755042526560, 197939122344954083520, 169786879979564090880, 139875440054569712640, 109467451280751782400, 80005018747593139200, 53071044843021004800, 30342316725155635200, 13449520494163353600, 3497296636753920000, 0],
 [22180309834307193611287, 22180309834307193611287, 21883152090191835541902, 21271022730884103222300, 20336696602107024245544, 19085827485082581585360, 17538849670727093107680, 15732224543441536966080, 13718758612709053814400, 11566762464225475180800, 9357947126471601907200, 7184197810654594329600, 5143691525743330560000, 3336916827584051712000, 1861923680377592832000, 803473933013047296000, 202843204931727360000, 0],
 [1820641848410408158704734, 1820641848410408158704734, 1797842391825266540674784, 1750977146544542942704176, 1679549551317162896992128, 1583986709695785237437760, 1465764914111363451394560, 1327489444574932988563200, 1172910672221324802071040, 1006860312550477211904000, 835097365978622633779200, 664064621109877342924800, 500574506810028031180800, 351462897183614920704000, 223247207695621165056000, 121732462806634487808000, 51219488507903299584000, 12576278705767096320000, 0],
 [0, 0, 0, 0, 0, 0, 0, 0, 0, 0, 0, 0, 0, 0, 0, 0, 0, 0, 0, 0],
 [0, 0, 0, 0, 0, 0, 0, 0, 0, 0, 0, 0, 0, 0, 0, 0, 0, 0, 0, 0, 0],
 [0, 0, 0, 0, 0, 0, 0, 0, 0, 0, 0, 0, 0, 0, 0, 0, 0, 0, 0, 0, 0, 0],
 [0, 0, 0, 0, 0, 0, 0, 0, 0, 0, 0, 0, 0, 0, 0, 0, 0, 0, 0, 0, 0, 0, 0],
 [0, 0, 0, 0, 0, 0, 0, 0, 0, 0, 0, 0, 0, 0, 0, 0, 0, 0, 0, 0, 0, 0, 0, 0],
 [0, 0, 0, 0, 0, 0, 0, 0, 0, 0, 0, 0, 0, 0, 0, 0, 0, 0, 0, 0, 0, 0, 0, 0, 0],
 [0, 0, 0, 0, 0, 0, 0, 0, 0, 0, 0, 0, 0, 0, 0, 0, 0, 0, 0, 0, 0, 0, 0, 0, 0, 0],
 [0, 0, 0, 0, 0, 0, 0, 0, 0, 0, 0, 0, 0, 0, 0, 0, 0, 0, 0, 0, 0, 0, 0, 0, 0, 0, 0],
 [0, 0, 0, 0, 0, 0, 0, 0, 0, 0, 0, 0, 0, 0, 0, 0, 0, 0, 0, 0, 0, 0, 0, 0, 0, 0, 0, 0],
 [0, 0, 0, 0, 0, 0, 0, 0, 0, 0, 0, 0, 0, 0, 0, 0, 0, 0, 0, 0, 0, 0, 0, 0, 0, 0, 0, 0, 0],
 [0, 0, 0, 0, 0, 0, 0, 0, 0, 0, 0, 0, 0, 0, 0, 0, 0, 0, 0, 0, 0, 0, 0, 0, 0, 0, 0, 0, 0, 0],
 [0, 0, 0, 0, 0, 0, 0, 0, 0, 0, 0, 0, 0, 0, 0, 0, 0, 0, 0, 0, 0, 0, 0, 0, 0, 0, 0, 0, 0, 0, 0],
 [0, 0, 0, 0, 0, 0, 0, 0, 0, 0, 0, 0, 0, 0, 0, 0, 0, 0, 0, 0, 0, 0, 0, 0, 0, 0, 0, 0, 0, 0, 0, 0],
 [0, 0, 0, 0, 0, 0, 0, 0, 0, 0, 0, 0, 0, 0, 0, 0, 0, 0, 0, 0, 0, 0, 0, 0, 0, 0, 0, 0, 0, 0, 0, 0, 0],
 [0, 0, 0, 0, 0, 0, 0, 0, 0, 0, 0, 0, 0, 0, 0, 0, 0, 0, 0, 0, 0, 0, 0, 0, 0, 0, 0, 0, 0, 0, 0, 0, 0, 0],
 [0, 0, 0, 0, 0, 0, 0, 0, 0, 0, 0, 0, 0, 0, 0, 0, 0, 0, 0, 0, 0, 0, 0, 0, 0, 0, 0, 0, 0, 0, 0, 0, 0, 0, 0],
 [0, 0, 0, 0, 0, 0, 0, 0, 0, 0, 0, 0, 0, 0, 0, 0, 0, 0, 0, 0, 0, 0, 0, 0, 0, 0, 0, 0, 0, 0, 0, 0, 0, 0, 0, 0],
 [0, 0, 0, 0, 0, 0, 0, 0, 0, 0, 0, 0, 0, 0, 0, 0, 0, 0, 0, 0, 0, 0, 0, 0, 0, 0, 0, 0, 0, 0, 0, 0, 0, 0, 0, 0, 0],
 [0, 0, 0, 0, 0, 0, 0, 0, 0, 0, 0, 0, 0, 0, 0, 0, 0, 0, 0, 0, 0, 0, 0, 0, 0, 0, 0, 0, 0, 0, 0, 0, 0, 0, 0, 0, 0, 0],
 [0, 0, 0, 0, 0, 0, 0, 0, 0, 0, 0, 0, 0, 0, 0, 0, 0, 0, 0, 0, 0, 0, 0, 0, 0, 0, 0, 0, 0, 0, 0, 0, 0, 0, 0, 0, 0, 0, 0],
 [0, 0, 0, 0, 0, 0, 0, 0, 0, 0, 0, 0, 0, 0, 0, 0, 0, 0, 0, 0, 0, 0, 0, 0, 0, 0, 0, 0, 0, 0, 0, 0, 0, 0, 0, 0, 0, 0, 0, 0],
 [0, 0, 0, 0, 0, 0, 0, 0, 0, 0, 0, 0, 0, 0, 0, 0, 0, 0, 0, 0, 0, 0, 0, 0, 0, 0, 0, 0, 0, 0, 0, 0, 0, 0, 0, 0, 0, 0, 0, 0, 0],
 [0, 0, 0, 0, 0, 0, 0, 0, 0, 0, 0, 0, 0, 0, 0, 0, 0, 0, 0, 0, 0, 0, 0, 0, 0, 0, 0, 0, 0, 0, 0, 0, 0, 0, 0, 0, 0, 0, 0, 0, 0, 0],
 [0, 0, 0, 0, 0, 0, 0, 0, 0, 0, 0, 0, 0, 0, 0, 0, 0, 0, 0, 0, 0, 0, 0, 0, 0, 0, 0, 0, 0, 0, 0, 0, 0, 0, 0, 0, 0, 0, 0, 0, 0, 0, 0]]
def hW2 : List (List Nat) := [
 [0, 1],
 [1, 2, 1],
 [8, 14, 8, 2],
 [80, 136, 85, 30, 5],
 [928, 1568, 1040, 434, 112, 14],
 [11904, 20128, 13920, 6440, 2058, 420, 42],
 [164096, 278272, 198464, 98560, 35952, 9372, 1584, 132],
 [2387200, 4062464, 2966272, 1551648, 620256, 188496, 41613, 6006, 429],
 [36207104, 61834752, 45990400, 25034240, 10707648, 3622080, 947232, 181610, 22880, 1430],
 [567703552, 972773888, 734307840, 412492032, 185896704, 68109888, 20070336, 4616040, 782782, 87516, 4862],
 [9145167872, 15718666240, 12009927680, 6920801280, 3251719680, 1267757568, 408600192, 106941120, 21976240, 3342404, 335920, 16796],
 [150660194304, 259677351936, 200412631040, 117949350400, 57337953792, 23498162688, 8124120576, 2344371744, 552712160, 102724336, 14167426, 1293292, 58786],
 [2529321959424, 4370543001600, 3401732874240, 2037776097280, 1019111582720, 435143267328, 159217124352, 49617165312, 12984573888, 2787598528, 473109728, 59699444, 4992288, 208012],
 [43152308502528, 74735254781952, 58589120020480, 35629716254720, 18251520888832, 8065661846528, 3092747074560, 1025848961280, 291567527680, 69879153344, 13779438400, 2152508176, 250357300, 19315400, 742900],
 [746514273140736, 1295553697546240, 1021961621504000, 629588595277824, 329211450925056, 149802090848256, 59752002545664, 20873109903360, 6345463567872, 1659788782080, 367182058880, 66976535808, 9693359200, 1045706040, 74884320, 2674440],
 [13071608100749312, 22727855375515648, 18024718474280960, 11230011046051840, 5977741065633792, 2789481236226048, 1150790010839040, 419996014563840, 135042462297600, 37942059730432, 9199721183744, 1890702608704, 320920913600, 43272439200, 4352985405, 290845350, 9694845],
 [231333690791821312, 402908596574486528, 321036109278871552, 201999647908823040, 109213562359480320, 52094547305988096, 22127300678565888, 8384651717984256, 2827227005025280, 843291843789824, 220447524723712, 49842311128064, 9567919643520, 1518867964800, 191725254720, 18067769370, 1131445440, 35357670],
 [0, 0, 0, 0, 0, 0, 0, 0, 0, 0, 0, 0, 0, 0, 0, 0, 0, 0, 0],
 [0, 0, 0, 0, 0, 0, 0, 0, 0, 0, 0, 0, 0, 0, 0, 0, 0, 0, 0, 0],
 [0, 0, 0, 0, 0, 0, 0, 0, 0, 0, 0, 0, 0, 0, 0, 0, 0, 0, 0, 0, 0],
 [0, 0, 0, 0, 0, 0, 0, 0, 0, 0, 0, 0, 0, 0, 0, 0, 0, 0, 0, 0, 0, 0],
 [0, 0, 0, 0, 0, 0, 0, 0, 0, 0, 0, 0, 0, 0, 0, 0, 0, 0, 0, 0, 0, 0, 0],
 [0, 0, 0, 0, 0, 0, 0, 0, 0, 0, 0, 0, 0, 0, 0, 0, 0, 0, 0, 0, 0, 0, 0, 0],
 [0, 0, 0, 0, 0, 0, 0, 0, 0, 0, 0, 0, 0, 0, 0, 0, 0, 0, 0, 0, 0, 0, 0, 0, 0],
 [0, 0, 0, 0, 0, 0, 0, 0, 0, 0, 0, 0, 0, 0, 0, 0, 0, 0, 0, 0, 0, 0, 0, 0, 0, 0],
 [0, 0, 0, 0, 0, 0, 0, 0, 0, 0, 0, 0, 0, 0, 0, 0, 0, 0, 0, 0, 0, 0, 0, 0, 0, 0, 0],
 [0, 0, 0, 0, 0, 0, 0, 0, 0, 0, 0, 0, 0, 0, 0, 0, 0, 0, 0, 0, 0, 0, 0, 0, 0, 0, 0, 0],
 [0, 0, 0, 0, 0, 0, 0, 0, 0, 0, 0, 0, 0, 0, 0, 0, 0, 0, 0, 0, 0, 0, 0, 0, 0, 0, 0, 0, 0],
 [0, 0, 0, 0, 0, 0, 0, 0, 0, 0, 0, 0, 0, 0, 0, 0, 0, 0, 0, 0, 0, 0, 0, 0, 0, 0, 0, 0, 0, 0],
 [0, 0, 0, 0, 0, 0, 0, 0, 0, 0, 0, 0, 0, 0, 0, 0, 0, 0, 0, 0, 0, 0, 0, 0, 0, 0, 0, 0, 0, 0, 0],
 [0, 0, 0, 0, 0, 0, 0, 0, 0, 0, 0, 0, 0, 0, 0, 0, 0, 0, 0, 0, 0, 0, 0, 0, 0, 0, 0, 0, 0, 0, 0, 0],
 [0, 0, 0, 0, 0, 0, 0, 0, 0, 0, 0, 0, 0, 0, 0, 0, 0, 0, 0, 0, 0, 0, 0, 0, 0, 0, 0, 0, 0, 0, 0, 0, 0],
 [0, 0, 0, 0, 0, 0, 0, 0, 0, 0, 0, 0, 0, 0, 0, 0, 0, 0, 0, 0, 0, 0, 0, 0, 0, 0, 0, 0, 0, 0, 0, 0, 0, 0],
 [0, 0, 0, 0, 0, 0, 0, 0, 0, 0, 0, 0, 0, 0, 0, 0, 0, 0, 0, 0, 0, 0, 0, 0, 0, 0, 0, 0, 0, 0, 0, 0, 0, 0, 0],
 [0, 0, 0, 0, 0, 0, 0, 0, 0, 0, 0, 0, 0, 0, 0, 0, 0, 0, 0, 0, 0, 0, 0, 0, 0, 0, 0, 0, 0, 0, 0, 0, 0, 0, 0, 0],
 [0, 0, 0, 0, 0, 0, 0, 0, 0, 0, 0, 0, 0, 0, 0, 0, 0, 0, 0, 0, 0, 0, 0, 0, 0, 0, 0, 0, 0, 0, 0, 0, 0, 0, 0, 0, 0],
 [0, 0, 0, 0, 0, 0, 0, 0, 0, 0, 0, 0, 0, 0, 0, 0, 0, 0, 0, 0, 0, 0, 0, 0, 0, 0, 0, 0, 0, 0, 0, 0, 0, 0, 0, 0, 0, 0],
 [0, 0, 0, 0, 0, 0, 0, 0, 0, 0, 0, 0, 0, 0, 0, 0, 0, 0, 0, 0, 0, 0, 0, 0, 0, 0, 0, 0, 0, 0, 0, 0, 0, 0, 0, 0, 0, 0, 0],
 [0, 0, 0, 0, 0, 0, 0, 0, 0, 0, 0, 0, 0, 0, 0, 0, 0, 0, 0, 0, 0, 0, 0, 0, 0, 0, 0, 0, 0, 0, 0, 0, 0, 0, 0, 0, 0, 0, 0, 0],
 [0, 0, 0, 0, 0, 0, 0, 0, 0, 0, 0, 0, 0, 0, 0, 0, 0, 0, 0, 0, 0, 0, 0, 0, 0, 0, 0, 0, 0, 0, 0, 0, 0, 0, 0, 0, 0, 0, 0, 0, 0],
 [0, 0, 0, 0, 0, 0, 0, 0, 0, 0, 0, 0, 0, 0, 0, 0, 0, 0, 0, 0, 0, 0, 0, 0, 0, 0, 0, 0, 0, 0, 0, 0, 0, 0, 0, 0, 0, 0, 0, 0, 0, 0]]
def rW2 : List (List Nat) := [
 [1, 1, 0],
 [4, 3, 1, 0],
 [32, 24, 10, 2, 0],
 [336, 256, 120, 35, 5, 0],
 [4096, 3168, 1600, 560, 126, 14, 0],
 [54912, 43008, 22880, 8960, 2520, 462, 42, 0],
 [786432, 622336, 344064, 145600, 47040, 11088, 1716, 132, 0],
 [11824384, 9437184, 5374720, 2408448, 856800, 236544, 48048, 6435, 429, 0],
 [184549376, 148342272, 86507520, 40517120, 15482880, 4775232, 1153152, 205920, 24310, 1430, 0],
 [2966845440, 2399141888, 1426368000, 692060160, 279568128, 93671424, 25561536, 5491200, 875160, 92378, 4862, 0],
 [48855252992, 39710085120, 23991418880, 11981491200, 5060689920, 1808970240, 541212672, 132612480, 25671360, 3695120, 352716, 16796, 0],
 [820675092480, 670014898176, 410337546240, 209924915200, 91975564800, 34637611008, 11139448320, 3015327744, 670956000, 118243840, 15519504, 1352078, 58786, 0],
 [14018773254144, 11489451294720, 7118908293120, 3717175418880, 1679399321600, 660287738880, 225144471552, 65927347200, 16310181888, 3325608000, 538009472, 64899744, 5200300, 208012, 0],
 [242919827374080, 199767518871552, 125032264089600, 66443144069120, 30813427814400, 12561906925568, 4496245079040, 1403498004480, 377649043200, 86081515520, 16202362176, 2422923776, 270415600, 20058300, 742900, 0],
 [4261707069259776, 3515192796119040, 2219639098572800, 1197677477068800, 568088881790976, 238877430865920, 89075340017664, 29323337472000, 8450227568640, 2104764000768, 444975218688, 77793159808, 10816624000, 1123264800, 77558760, 2674440, 0],
 [75576645116559360, 62505037015810048, 39777181640294400, 21752463166013440, 10522452119961600, 4544711054327808, 1755229818101760, 604439807262720, 184443792698880, 49401330401280, 11459270670848, 2259549487104, 368846878400, 47925964800, 4653525600, 300540195, 9694845, 0],
 [1353050213048123392, 1121716522256302080, 718807925681815552, 397771816402944000, 195772168494120960, 86558606134640640, 34464058828652544, 12336758150086656, 3952106432102400, 1124879427077120, 281587583287296, 61140058563584, 11297747435520, 1729827792000, 210959827200, 19234572480, 1166803110, 35357670, 0],
 [0, 0, 0, 0, 0, 0, 0, 0, 0, 0, 0, 0, 0, 0, 0, 0, 0, 0, 0, 0],
 [0, 0, 0, 0, 0, 0, 0, 0, 0, 0, 0, 0, 0, 0, 0, 0, 0, 0, 0, 0, 0],
 [0, 0, 0, 0, 0, 0, 0, 0, 0, 0, 0, 0, 0, 0, 0, 0, 0, 0, 0, 0, 0, 0],
 [0, 0, 0, 0, 0, 0, 0, 0, 0, 0, 0, 0, 0, 0, 0, 0, 0, 0, 0, 0, 0, 0, 0],
 [0, 0, 0, 0, 0, 0, 0, 0, 0, 0, 0, 0, 0, 0, 0, 0, 0, 0, 0, 0, 0, 0, 0, 0],
 [0, 0, 0, 0, 0, 0, 0, 0, 0, 0, 0, 0, 0, 0, 0, 0, 0, 0, 0, 0, 0, 0, 0, 0, 0],
 [0, 0, 0, 0, 0, 0, 0, 0, 0, 0, 0, 0, 0, 0, 0, 0, 0, 0, 0, 0, 0, 0, 0, 0, 0, 0],
 [0, 0, 0, 0, 0, 0, 0, 0, 0, 0, 0, 0, 0, 0, 0, 0, 0, 0, 0, 0, 0, 0, 0, 0, 0, 0, 0],
 [0, 0, 0, 0, 0, 0, 0, 0, 0, 0, 0, 0, 0, 0, 0, 0, 0, 0, 0, 0, 0, 0, 0, 0, 0, 0, 0, 0],
 [0, 0, 0, 0, 0, 0, 0, 0, 0, 0, 0, 0, 0, 0, 0, 0, 0, 0, 0, 0, 0, 0, 0, 0, 0, 0, 0, 0, 0],
 [0, 0, 0, 0, 0, 0, 0, 0, 0, 0, 0, 0, 0, 0, 0, 0, 0, 0, 0, 0, 0, 0, 0, 0, 0, 0, 0, 0, 0, 0],
 [0, 0, 0, 0, 0, 0, 0, 0, 0, 0, 0, 0, 0, 0, 0, 0, 0, 0, 0, 0, 0, 0, 0, 0, 0, 0, 0, 0, 0, 0, 0],
 [0, 0, 0, 0, 0, 0, 0, 0, 0, 0, 0, 0, 0, 0, 0, 0, 0, 0, 0, 0, 0, 0, 0, 0, 0, 0, 0, 0, 0, 0, 0, 0],
 [0, 0, 0, 0, 0, 0, 0, 0, 0, 0, 0, 0, 0, 0, 0, 0, 0, 0, 0, 0, 0, 0, 0, 0, 0, 0, 0, 0, 0, 0, 0, 0, 0],
 [0, 0, 0, 0, 0, 0, 0, 0, 0, 0, 0, 0, 0, 0, 0, 0, 0, 0, 0, 0, 0, 0, 0, 0, 0, 0, 0, 0, 0, 0, 0, 0, 0, 0],
 [0, 0, 0, 0, 0, 0, 0, 0, 0, 0, 0, 0, 0, 0, 0, 0, 0, 0, 0, 0, 0, 0, 0, 0, 0, 0, 0, 0, 0, 0, 0, 0, 0, 0, 0],
 [0, 0, 0, 0, 0, 0, 0, 0, 0, 0, 0, 0, 0, 0, 0, 0, 0, 0, 0, 0, 0, 0, 0, 0, 0, 0, 0, 0, 0, 0, 0, 0, 0, 0, 0, 0],
 [0, 0, 0, 0, 0, 0, 0, 0, 0, 0, 0, 0, 0, 0, 0, 0, 0, 0, 0, 0, 0, 0, 0, 0, 0, 0, 0, 0, 0, 0, 0, 0, 0, 0, 0, 0, 0],
 [0, 0, 0, 0, 0, 0, 0, 0, 0, 0, 0, 0, 0, 0, 0, 0, 0, 0, 0, 0, 0, 0, 0, 0, 0, 0, 0, 0, 0, 0, 0, 0, 0, 0, 0, 0, 0, 0],
 [0, 0, 0, 0, 0, 0, 0, 0, 0, 0, 0, 0, 0, 0, 0, 0, 0, 0, 0, 0, 0, 0, 0, 0, 0, 0, 0, 0, 0, 0, 0, 0, 0, 0, 0, 0, 0, 0, 0],
 [0, 0, 0, 0, 0, 0, 0, 0, 0, 0, 0, 0, 0, 0, 0, 0, 0, 0, 0, 0, 0, 0, 0, 0, 0, 0, 0, 0, 0, 0, 0, 0, 0, 0, 0, 0, 0, 0, 0, 0],
 [0, 0, 0, 0, 0, 0, 0, 0, 0, 0, 0, 0, 0, 0, 0, 0, 0, 0, 0, 0, 0, 0, 0, 0, 0, 0, 0, 0, 0, 0, 0, 0, 0, 0, 0, 0, 0, 0, 0, 0, 0],
 [0, 0, 0, 0, 0, 0, 0, 0, 0, 0, 0, 0, 0, 0, 0, 0, 0, 0, 0, 0, 0, 0, 0, 0, 0, 0, 0, 0, 0, 0, 0, 0, 0, 0, 0, 0, 0, 0, 0, 0, 0, 0],
 [0, 0, 0, 0, 0, 0, 0, 0, 0, 0, 0, 0, 0, 0, 0, 0, 0, 0, 0, 0, 0, 0, 0, 0, 0, 0, 0, 0, 0, 0, 0, 0, 0, 0, 0, 0, 0, 0, 0, 0, 0, 0, 0]]
/-! the rows of the choices -/
theorem atI_m1 {α : Type} {xs : List α} {n : Nat} (h : xs.length = n + 1) : atI xs (-1) = xs[n]? := by
  have h1 : ixN xs.length (-1) = some n := by
    rw [h]
    unfold ixN
    rw [if_neg (by decide), if_pos (by omega)]
    exact congrArg some (by omega)
  unfold atI
  rw [h1]
  rfl
def chB (j : Nat) : Bool := decide (([1] ++ (List.range j).map (fun a => (zi (cB.getD j [])).getD a 0 + (zi (cB.getD j [])).getD (a + 1) 0) ++ [1] : List Int) = zi (cB.getD (j + 1) [])) && Nat.beq (cB.getD j []).length (j + 1)
theorem chB_all : ∀ j, j < 18 → chB j = true := by decide +kernel
theorem cB_len : cB.length = 20 := by decide +kernel
theorem cB_at {j : Nat} (h : j < 18) : ([1] ++ (List.range j).map (fun a => (zi (cB.getD j [])).getD a 0 + (zi (cB.getD j [])).getD (a + 1) 0) ++ [1] : List Int) = zi (cB.getD (j + 1) []) ∧ (cB.getD j []).length = j + 1 := by
  have e := chB_all j h
  unfold chB at e
  rw [Bool.and_eq_true] at e
  exact ⟨of_decide_eq_true e.1, Nat.eq_of_beq_eq_true e.2⟩
def fd_law_choose : FD := fun ds M _ Q => ∃ n : Nat, ds = [.int n] ∧ M = [] ∧ n ≤ 17 ∧ Q (lli (tk cB (n + 1))) []
theorem len_law_choose : ∀ ds M ED QD, fd_law_choose ds M ED QD → ds.length = 1 := fun ds M ED QD ⟨_, e, _⟩ => by rw [e]; rfl
def td_law_choose : DS :=
  (dSeq (dAsg (dLst true (dCons (dLst false (dCons (dC (.int 1)) dNil)) dNil)) (dName 1))
  (dSeq (dFor (diRange1 (dCons (dVar 0) dNil)) (dName 2) (dSeq (dAsg (dOp ixD (dVar 1) (dUn negD (dC (.int 1)))) (dName 3))
  (dDrop (dApp (dVar 1) (dOp (addD false) (dOp (addD false) (dLst false (dCons (dC (.int 1)) dNil)) (dLc false (diRange1 (dCons (dVar 2) dNil)) [4] (dName 4) dYes (dOp (addD false) (dOp ixD (dVar 3) (dVar 4)) (dOp ixD (dVar 3) (dOp (addD false) (dVar 4) (dC (.int 1))))))) (dLst false (dCons (dC (.int 1)) dNil)))))))
  (dRet true (dVar 1))))
theorem rd_law_choose : ∀ ds M ED QD, fd_law_choose ds M ED QD → td_law_choose (outs M QD) (startD ["_law_most", "_law_rows", "_law_turn", "_law_row", "_law_at"] ds) M := by
  rintro ds M ED QD ⟨n, rfl, rfl, hn, h⟩
  refine ⟨small1 1 (by decide), small1 1 (by decide), fun p hp => ?_⟩
  refine ⟨_, rfl, n, rfl, by omega, by omega, fun j sl M => ∃ a b c, sl = [some (.int n), some (.ref p), a, b, c] ∧ M = [(p, .lst ((tk cB (j + 1)).map li))], ⟨_, _, _, rfl, ?_⟩, fun _ _ _ _ _ => trivial, ?_, ?_⟩
  · have e : tk cB (0 + 1) = [[1]] := by decide +kernel
    rw [e]
    rfl
  · rintro j sl M hj ⟨a, b, c, rfl, rfl⟩
    replace hj : j < n := hj
    obtain ⟨e1, e2⟩ := cB_at (j := j) (by omega)
    have hl : (tk cB (j + 1)).length = j + 1 := by rw [List.length_map, List.length_take, cB_len]; omega
    have am : atI ((tk cB (j + 1)).map li) (-1) = some (li (zi (cB.getD j []))) := by
      rw [atI_m1 (n := j) (by rw [List.length_map, hl]), List.getElem?_map, List.getElem?_eq_getElem (by omega)]
      have e : (tk cB (j + 1)).getD j [] = zi (cB.getD j []) := tk_getD (by omega)
      rw [List.getD_eq_getElem?_getD, List.getElem?_eq_getElem (by omega)] at e
      exact congrArg (fun z => some (li z)) e
    refine ⟨_, rfl, 0, _, rfl, _, am, ?_⟩
    refine ⟨_, rfl, ⟨0, _, rfl⟩, small1 1 (by decide), ?_⟩
    refine al_f ?_
    refine lc_rng 0 1 j (fun a => (zi (cB.getD j [])).getD a 0 + (zi (cB.getD j [])).getD (a + 1) 0) ?_ (by omega) ?_ ?_
    · exact fun RD hr => ⟨_, rfl, (0 + (j : Nat) * 1 : Int), rfl, by omega, by omega, by rw [show (0 + (j : Nat) * 1 : Int).toNat = j by omega]; exact hr⟩
    · intro t ht Q q
      have l1 : (zi (cB.getD j [])).length = j + 1 := by rw [List.length_map, e2]
      exact ⟨_, rfl, _, rfl, _, atI_i (xs := zi (cB.getD j [])) t (by omega) (by omega), _, rfl, _, rfl, _, atI_i (xs := zi (cB.getD j [])) (t + 1) (by omega) (by omega), q⟩
    · refine ⟨?_, small1 1 (by decide), ?_, 0, _, rfl, ?_, _, _, _, rfl, ?_⟩
      · show 1 + (((List.range j).map _).map D.int).length ≤ sizeLine
        rw [List.length_map, List.length_map, List.length_range]
        exact small1 _ (by omega)
      · show ([D.int 1] ++ ((List.range j).map _).map D.int).length + 1 ≤ sizeLine
        rw [List.length_append, List.length_map, List.length_map, List.length_range]
        exact small1 _ (by simp; omega)
      · show ((tk cB (j + 1)).map li).length < sizeLine
        rw [List.length_map, hl]
        exact small1000 (by omega)
      · refine congrArg (fun z => [(p, N.lst z)]) ?_
        have ea : tk cB (j + 1 + 1) = tk cB (j + 1) ++ [zi (cB.getD (j + 1) [])] := by
          unfold tk
          rw [List.take_add_one, List.map_append, List.getD_eq_getElem?_getD, List.getElem?_eq_getElem (by rw [cB_len]; omega)]
          rfl
        rw [ea, List.map_append, ← e1]
        refine congrArg (fun z => (tk cB (j + 1)).map li ++ [D.lst z]) ?_
        show [D.int 1] ++ ((List.range j).map _).map D.int ++ [D.int 1] = (_ ++ _ ++ _ : List Int).map D.int
        rw [List.map_append, List.map_append]
        rfl
  · rintro sl M ⟨a, b, c, rfl, rfl⟩
    exact ⟨_, rfl, 0, _, rfl, .none h⟩
/-! what the givens give -/
theorem log_mul {x y : Nat} (h : x.log2 < 1000) (h2 : y.log2 < 1000) : (x * y).log2 < 2000 := by
  have p : ∀ z : Nat, z.log2 < 1000 → z < 2 ^ 1000 := fun z hz => by
    by_cases e : z = 0
    · rw [e]; exact Nat.two_pow_pos _
    · exact (Nat.log2_lt e).mp hz
  by_cases e : x * y = 0
  · rw [e]; decide
  · rw [Nat.log2_lt e, show (2 : Nat) ^ 2000 = 2 ^ 1000 * 2 ^ 1000 from by rw [← Nat.pow_add]]
    have hx := p x h
    have hy := p y h2
    exact Nat.lt_of_le_of_lt (Nat.mul_le_mul_left x (Nat.le_of_lt hy)) (Nat.mul_lt_mul_of_pos_right hx (Nat.two_pow_pos _))
theorem log_mul_i {x y : Int} (h : x.natAbs.log2 < 1000) (h2 : y.natAbs.log2 < 1000) : (x * y).natAbs.log2 < 2000 := by
  rw [Int.natAbs_mul]
  exact log_mul h h2
def accF (b : Int) (f : Nat → Int) : Nat → Int
  | 0 => b
  | n + 1 => accF b f n + f n
theorem accF_eq (b : Int) (f : Nat → Int) : ∀ n, accF b f n = b + accM f n := by
  intro n
  induction n with
  | zero => show b = b + 0; omega
  | succ n ih => show accF b f n + f n = b + (accM f n + f n); rw [ih]; omega
def cnt (size names f : Nat) : Nat := min names (f + 1) + 1 - (names + f - size)
def g3 (ws hs rs : List (List Int)) (size names f t : Nat) : Int := (ws.getD names []).getD (names + f - size + t) 0 * (hs.getD f []).getD (names + f - size + t) 0 * (rs.getD (size - 1 - f) []).getD (names - (names + f - size + t)) 0
def givM (ws hs rs : List (List Int)) (size names : Nat) : Nat → Int
  | 0 => 0
  | f + 1 => accF (givM ws hs rs size names f) (g3 ws hs rs size names f) (cnt size names f)
structure SmRows (hs : List (List Int)) : Prop where
  small : ∀ i k, ((hs.getD i []).getD k 0).natAbs.log2 < 1000
def fd_law_gives : FD := fun ds M _ Q => ∃ (h r : Addr) (kh kr : Nat) (hs rs ws : List (List Int)) (size names : Nat), ds = [.ref h, .ref r, lli ws, .int size, .int names] ∧ M[kh]? = some (h, .lst (hs.map li)) ∧ M[kr]? = some (r, .lst (rs.map li)) ∧
  SmRows hs ∧ SmRows rs ∧ SmRows ws ∧ size ≤ hs.length ∧ size ≤ rs.length ∧ names < ws.length ∧ (∀ j, j < size → j + 2 ≤ (hs.getD j []).length ∧ j + 3 ≤ (rs.getD j []).length) ∧ names + 1 ≤ (ws.getD names []).length ∧ size ≤ 40 ∧ names ≤ size + 1 ∧ Q (.int (givM ws hs rs size names size)) M
theorem len_law_gives : ∀ ds M ED QD, fd_law_gives ds M ED QD → ds.length = 5 := fun ds M ED QD ⟨_, _, _, _, _, _, _, _, _, e, _⟩ => by rw [e]; rfl
def td_law_gives : DS :=
  (dSeq (dAsg (dC (.int 0)) (dName 5))
  (dSeq (dFor (diRange1 (dCons (dVar 3) dNil)) (dName 6) (dFor (diRange2 (dCons (dCB max2D (dCons (dC (.int 0)) (dCons (dOp (addD false) (dOp subD (dVar 4) (dVar 3)) (dVar 6)) dNil))) (dCons (dOp (addD false) (dCB min2D (dCons (dVar 4) (dCons (dOp (addD false) (dVar 6) (dC (.int 1))) dNil))) (dC (.int 1))) dNil))) (dName 7) (dAsg (dOp (addD false) (dVar 5) (dOp (mulD false) (dOp (mulD false) (dOp ixD (dOp ixD (dVar 2) (dVar 4)) (dVar 7)) (dOp ixD (dOp ixD (dVar 0) (dVar 6)) (dVar 7))) (dOp ixD (dOp ixD (dVar 1) (dOp subD (dOp subD (dVar 3) (dC (.int 1))) (dVar 6))) (dOp subD (dVar 4) (dVar 7))))) (dName 5))))
  (dRet false (dVar 5))))
theorem rd_law_gives : ∀ ds M ED QD, fd_law_gives ds M ED QD → td_law_gives (outs M QD) (startD ["_law_heads", "_law_rows", "_law_ways", "_law_size", "_law_names", "_law_found", "_law_first", "_law_few"] ds) M := by
  rintro ds M ED QD ⟨h, r, kh, kr, hs, rs, ws, size, names, rfl, hh, hr, oh, or, ow, lh, lr, lw, ll, l3, ls, ln, hq⟩
  refine ⟨_, rfl, size, rfl, by omega, by omega, fun j sl M' => M' = M ∧ ∃ a b, sl = [some (.ref h), some (.ref r), some (lli ws), some (.int size), some (.int names), some (.int (givM ws hs rs size names j)), a, b], ⟨rfl, _, _, rfl⟩, fun _ _ _ _ _ => trivial, ?_, ?_⟩
  · rintro j sl M' hj ⟨rfl, a, b, rfl⟩
    replace hj : j < size := hj
    have el := lowM_eq size names j
    have em := topM_eq names j
    obtain ⟨l1, l2⟩ := ll j hj
    obtain ⟨_, l4⟩ := ll (size - 1 - j) (by omega)
    refine ⟨_, rfl, _, rfl, _, rfl, _, rfl, _, rfl, lowM size names j, topM names j, rfl, rg2, fun t sl M => M = M' ∧ ∃ b, sl = [some (.ref h), some (.ref r), some (lli ws), some (.int size), some (.int names), some (.int (accF (givM ws hs rs size names j) (g3 ws hs rs size names j) t)), some (.int (0 + (j : Nat) * 1)), b], ⟨rfl, _, rfl⟩, fun _ _ _ _ _ => trivial, ?_, ?_⟩
    · rintro t sl M ht ⟨rfl, b, rfl⟩
      replace ht : t < (topM names j - lowM size names j).toNat := ht
      have i1 : lowM size names j + (t : Nat) * 1 = ((names + j - size + t : Nat) : Int) := by omega
      have i2 : (names : Int) - (lowM size names j + (t : Nat) * 1) = ((names - (names + j - size + t) : Nat) : Int) := by omega
      have i3 : (size : Int) - 1 - (0 + (j : Nat) * 1) = ((size - 1 - j : Nat) : Int) := by omega
      exact ⟨_, rfl, _, rfl, _, rfl, _, atI_l names rfl (by omega), _, rfl, _, atI_i _ i1 (by omega), _, rfl, _, rfl, kh, _, hh, _, atI_l j (by omega) (by omega), _, rfl, _, atI_i _ i1 (by omega), mul_big (Nat.lt_trans (ow.small _ _) (by decide)) (Nat.lt_trans (oh.small _ _) (by decide)),
        _, rfl, _, rfl, _, rfl, kr, _, hr, _, atI_l _ i3 (by omega), _, rfl, _, rfl, _, atI_i _ i2 (by omega), mul_big (Nat.lt_trans (log_mul_i (ow.small _ _) (oh.small _ _)) (by decide)) (Nat.lt_trans (or.small _ _) (by decide)), rfl, _, rfl⟩
    · rintro sl M ⟨rfl, b, rfl⟩
      have e : (topM names j - lowM size names j).toNat = cnt size names j := by unfold cnt; omega
      refine ⟨rfl, some (.int (0 + (j : Nat) * 1)), b, ?_⟩
      show [some (D.ref h), some (D.ref r), some (lli ws), some (D.int size), some (D.int names), some (D.int (accF (givM ws hs rs size names j) (g3 ws hs rs size names j) (topM names j - lowM size names j).toNat)), some (D.int (0 + (j : Nat) * 1)), b] = _
      rw [e]
      rfl
  · rintro sl M' ⟨rfl, a, b, rfl⟩
    exact ⟨_, rfl, .all (Pre.refl _) hq⟩
end Once

/-! L51b: the law's table, the law. -/
namespace Once
open PySem PySem.Spec L2 OD
noncomputable def termW (w L R : List Nat) (low m : Nat) (t : Nat) : Nat := Nat.rec (motive := fun _ => Nat) 0 (fun t ih => Nat.add ih (Nat.mul (Nat.mul (nth w (Nat.add low t)) (nth L (Nat.add low t))) (nth R (Nat.sub m (Nat.add low t))))) t
noncomputable def sumW (W A B : List (List Nat)) (j m : Nat) (f : Nat) : Nat := Nat.rec (motive := fun _ => Nat) 0 (fun f ih => Nat.add ih (termW (row W m) (row A f) (row B (Nat.sub (Nat.sub j 1) f)) (Nat.sub (Nat.add m f) j) m (Nat.sub (Nat.add (min m (Nat.add f 1)) 1) (Nat.sub (Nat.add m f) j)))) f
theorem termW_eq (w L R : List Nat) (low m : Nat) : ∀ t, accM (fun t => (zi w).getD (low + t) 0 * (zi L).getD (low + t) 0 * (zi R).getD (m - (low + t)) 0) t = ((termW w L R low m t : Nat) : Int) := by
  intro t
  induction t with
  | zero => rfl
  | succ t ih =>
    show _ + ((zi w).getD (low + t) 0 * (zi L).getD (low + t) 0 * (zi R).getD (m - (low + t)) 0) = ((termW w L R low m t + nth w (low + t) * nth L (low + t) * nth R (m - (low + t)) : Nat) : Int)
    rw [ih, zi_getD, zi_getD, zi_getD, nth_eq, nth_eq, nth_eq, Int.natCast_add, Int.natCast_mul, Int.natCast_mul]
theorem sumW_eq (W A B : List (List Nat)) (n j m : Nat) (hm : m < n) : ∀ f, f ≤ j → givM (tk W n) (tk A j) (tk B j) j m f = ((sumW W A B j m f : Nat) : Int) := by
  intro f
  induction f with
  | zero => exact fun _ => rfl
  | succ f ih =>
    intro hf
    show accF (givM (tk W n) (tk A j) (tk B j) j m f) (g3 (tk W n) (tk A j) (tk B j) j m f) (cnt j m f) = ((sumW W A B j m f + termW (row W m) (row A f) (row B (j - 1 - f)) (m + f - j) m (min m (f + 1) + 1 - (m + f - j)) : Nat) : Int)
    rw [accF_eq, ih (by omega), Int.natCast_add]
    congr 1
    have e : g3 (tk W n) (tk A j) (tk B j) j m f = fun t => (zi (W.getD m [])).getD (m + f - j + t) 0 * (zi (A.getD f [])).getD (m + f - j + t) 0 * (zi (B.getD (j - 1 - f) [])).getD (m - (m + f - j + t)) 0 := by
      funext t
      unfold g3
      rw [tk_getD hm, tk_getD (by omega), tk_getD (by omega)]
    rw [e, termW_eq, row_eq, row_eq, row_eq]
    rfl
/-! a table of heads: rows of two numbers more than rows stand before -/
structure HeadOk (A : List (List Nat)) : Prop where
  len : A.length = 41
  rows : ∀ j, j < 41 → (A.getD j []).length = j + 2
  small : ∀ i k, ((A.getD i []).getD k 0).log2 < 1000
noncomputable def chkHeads (A : List (List Nat)) : Bool := allN (fun j => Nat.beq (row A j).length (j + 2)) 41
theorem small_of {A : List (List Nat)} (h3 : chkSmall A = true) : ∀ i k, ((A.getD i []).getD k 0).log2 < 1000 := by
  intro i k
  unfold chkSmall at h3
  rw [List.all_eq_true] at h3
  rw [List.getD_eq_getElem?_getD, List.getD_eq_getElem?_getD]
  cases e : A[i]? with
  | none => exact (by decide : (0 : Nat).log2 < 1000)
  | some r =>
    have h4 := h3 r (List.mem_of_getElem? e)
    rw [List.all_eq_true] at h4
    show (r[k]?.getD 0).log2 < 1000
    cases e2 : r[k]? with
    | none => exact (by decide : (0 : Nat).log2 < 1000)
    | some x => have := h4 x (List.mem_of_getElem? e2); exact Nat.le_of_ble_eq_true this
theorem headOk_of {A : List (List Nat)} (h1 : Nat.beq A.length 41 = true) (h2 : chkHeads A = true) (h3 : chkSmall A = true) : HeadOk A := by
  refine ⟨Nat.eq_of_beq_eq_true h1, fun j hj => ?_, small_of h3⟩
  have h := allN_of h2 j hj
  rw [row_eq] at h
  exact Nat.eq_of_beq_eq_true h
theorem sm_tk {A : List (List Nat)} (h : ∀ i k, ((A.getD i []).getD k 0).log2 < 1000) (j : Nat) : SmRows (tk A j) := by
  refine ⟨fun i k => ?_⟩
  by_cases hi : i < j
  · rw [tk_getD hi, zi_getD, Int.natAbs_natCast]
    exact h i k
  · rw [List.getD_eq_getElem?_getD (l := tk A j), List.getElem?_eq_none (by rw [List.length_map, List.length_take]; omega)]
    exact (by decide : (0 : Nat).log2 < 1000)
theorem zh_len {A : List (List Nat)} (o : HeadOk A) {j i : Nat} (hj : j < 41) : (zr A j i).length = j + 2 := by
  unfold zr
  rw [List.length_map, List.length_append, List.length_replicate, List.length_drop, o.rows j hj]
  omega
theorem zh_0 {A : List (List Nat)} (o : HeadOk A) {j : Nat} (hj : j < 41) : zr A j 0 = List.replicate (j + 2) 0 := by
  unfold zr
  rw [Nat.sub_zero, List.drop_eq_nil_of_le (by rw [o.rows j hj]; exact Nat.le_refl _), List.append_nil, zi, List.map_replicate]
  rfl
theorem zh_set {A : List (List Nat)} (o : HeadOk A) {j i : Nat} (hj : j < 41) (hi : i < j + 2) : (zr A j i).set (j + 1 - i) (((A.getD j []).getD (j + 1 - i) 0 : Nat) : Int) = zr A j (i + 1) := by
  refine List.ext_getElem? fun k => ?_
  have l1 := zh_len o (i := i) hj
  have l2 := zh_len o (i := i + 1) hj
  by_cases hk : k < j + 2
  · have e1 : ∀ xs : List Int, k < xs.length → xs[k]? = some (xs.getD k 0) := fun xs h => by rw [List.getD_eq_getElem?_getD, List.getElem?_eq_getElem h]; rfl
    rw [e1 _ (by rw [List.length_set]; omega), e1 _ (by omega)]
    congr 1
    rw [List.getD_eq_getElem?_getD, List.getElem?_set]
    by_cases h2 : j + 1 - i = k
    · rw [if_pos h2, if_pos (by omega), zr_get (by omega), h2]
      rfl
    · rw [if_neg h2, ← List.getD_eq_getElem?_getD]
      by_cases h3 : j + 2 - i ≤ k
      · rw [zr_get h3, zr_get (by omega)]
      · unfold zr
        rw [zi_getD, zi_getD]
        congr 1
        have z : ∀ (n : Nat) (l : List Nat), k < n → (List.replicate n 0 ++ l).getD k 0 = 0 := fun n l hn => by
          rw [List.getD_eq_getElem?_getD, List.getElem?_append_left (by rw [List.length_replicate]; omega), List.getElem?_replicate, if_pos hn]
          rfl
        rw [z _ _ (by omega), z _ _ (by omega)]
  · rw [List.getElem?_eq_none (by rw [List.length_set]; omega), List.getElem?_eq_none (by omega)]
theorem th_succ {A : List (List Nat)} (o : HeadOk A) {j : Nat} (hj : j < 41) : tk A (j + 1) = tk A j ++ [zi (A.getD j [])] := by
  have h : j < A.length := by rw [o.len]; exact hj
  unfold tk
  rw [List.take_add_one, List.map_append, List.getD_eq_getElem?_getD, List.getElem?_eq_getElem h]
  rfl
/-! the three tables -/
noncomputable def eqHW (W A H R : List (List Nat)) (j m : Nat) : Bool := Nat.beq (nth (row H j) m) (Nat.add (sumW W A R j m j) (dl j m))
noncomputable def eqRW (H R : List (List Nat)) (j m : Nat) : Bool := Nat.beq (nth (row R j) m) (Nat.add (nth (row H j) m) (nth (row R j) (Nat.add m 1)))
structure TW (w : Int) (W H R : List (List Nat)) : Prop where
  okH : HeadOk H
  okR : TabOk R
  wl : W.length = 20
  wr : ∀ m, m < 20 → (W.getD m []).length = m + 1
  ws : ∀ i k, ((W.getD i []).getD k 0).log2 < 1000
  eH : allN (fun j => allN (eqHW W (if w = 1 then H else R) H R j) (j + 2)) 17 = true
  eR : allN (fun j => allN (eqRW H R j) (j + 2)) 17 = true
noncomputable def chkW (W : List (List Nat)) : Bool := allN (fun j => Nat.beq (row W j).length (j + 1)) 20
theorem wr_of {W : List (List Nat)} (h : chkW W = true) : ∀ m, m < 20 → (W.getD m []).length = m + 1 := fun m hm => by
  have e := allN_of h m hm
  rw [row_eq] at e
  exact Nat.eq_of_beq_eq_true e
theorem tw0 : TW 0 cB hW0 rW0 := ⟨headOk_of (by decide +kernel) (by decide +kernel) (by decide +kernel), tabOk_of (by decide +kernel) (by decide +kernel) (by decide +kernel), by decide +kernel, wr_of (by decide +kernel), small_of (by decide +kernel), by decide +kernel, by decide +kernel⟩
theorem tw1 : TW 1 cB hW1 rW1 := ⟨headOk_of (by decide +kernel) (by decide +kernel) (by decide +kernel), tabOk_of (by decide +kernel) (by decide +kernel) (by decide +kernel), by decide +kernel, wr_of (by decide +kernel), small_of (by decide +kernel), by decide +kernel, by decide +kernel⟩
theorem tw2 : TW 2 c1 hW2 rW2 := ⟨headOk_of (by decide +kernel) (by decide +kernel) (by decide +kernel), tabOk_of (by decide +kernel) (by decide +kernel) (by decide +kernel), by decide +kernel, wr_of (by decide +kernel), small_of (by decide +kernel), by decide +kernel, by decide +kernel⟩
theorem TW.cH {w : Int} {W H R : List (List Nat)} (t : TW w W H R) {n j m : Nat} (hj : j < 17) (hm : m < j + 2) (hn : m < n) : givM (tk W n) (tk (if w = 1 then H else R) j) (tk R j) j m j + (dl j m : Nat) = cl H j m := by
  have h := Nat.eq_of_beq_eq_true (allN_of (allN_of t.eH j hj) m hm)
  rw [row_eq, nth_eq] at h
  unfold cl
  rw [h, sumW_eq _ _ _ _ _ _ hn _ (Nat.le_refl _)]
  show _ = ((sumW _ _ _ j m j + dl j m : Nat) : Int)
  rw [Int.natCast_add]
theorem TW.cR {w : Int} {W H R : List (List Nat)} (t : TW w W H R) {j m : Nat} (hj : j < 17) (hm : m < j + 2) : cl H j m + cl R j (m + 1) = cl R j m := by
  have h := Nat.eq_of_beq_eq_true (allN_of (allN_of t.eR j hj) m hm)
  rw [row_eq, row_eq, nth_eq, nth_eq, nth_eq] at h
  unfold cl
  rw [h]
  show _ = (((H.getD j []).getD m 0 + (R.getD j []).getD (m + 1) 0 : Nat) : Int)
  rw [Int.natCast_add]
theorem ite_var {k : Bool} {i j : Nat} {sl : Slots} {M : Mem} {ED : XD} {Q : DK} {d d' : D} (e1 : sl[i]? = some (some d)) (e2 : sl[j]? = some (some d')) (h : Q (if k = true then d else d') M) : if k = true then dVar i sl M ED Q else dVar j sl M ED Q := by
  cases k
  · exact ⟨_, e2, h⟩
  · exact ⟨_, e1, h⟩
def fd_law_table : FD := fun ds M _ Q => ∃ (n k : Nat) (w : Int) (W H R : List (List Nat)), ds = [.int n, .int w, lli (tk W k)] ∧ M = [] ∧ n ≤ 16 ∧ n + 2 ≤ k ∧ k ≤ 20 ∧ TW w W H R ∧ Q (lli (tk R (n + 1))) []
theorem len_law_table : ∀ ds M ED QD, fd_law_table ds M ED QD → ds.length = 3 := fun ds M ED QD ⟨_, _, _, _, _, _, e, _⟩ => by rw [e]; rfl
def td_law_table : DS :=
  (dSeq (dAsg (dLst true dNil) (dName 3))
  (dSeq (dAsg (dLst true dNil) (dName 4))
  (dSeq (dFor (diRange1 (dCons (dOp (addD false) (dVar 0) (dC (.int 1))) dNil)) (dName 5) (dSeq (dAsg (dOp (mulD true) (dLst false (dCons (dC (.int 0)) dNil)) (dOp (addD false) (dVar 5) (dC (.int 2)))) (dName 6))
  (dSeq (dAsg (dOp (mulD true) (dLst false (dCons (dC (.int 0)) dNil)) (dOp (addD false) (dVar 5) (dC (.int 3)))) (dName 7))
  (dSeq (dFor (diRange3 (dCons (dOp (addD false) (dVar 5) (dC (.int 1))) (dCons (dUn negD (dC (.int 1))) (dCons (dUn negD (dC (.int 1))) dNil)))) (dName 8) (dSeq (dAsg (dCall0 fd_law_gives [0, 1] (dCons (dIf (dTest (dOp (eqD false) (dVar 1) (dC (.int 1)))) (dVar 3) (dVar 4)) (dCons (dVar 4) (dCons (dVar 2) (dCons (dVar 5) (dCons (dVar 8) dNil)))))) (dName 9))
  (dSeq (dSetIx (dOp (addD false) (dVar 9) (dCB intD (dCons (dAndV (dOp (eqD false) (dVar 5) (dC (.int 0))) (dOp (eqD false) (dVar 8) (dC (.int 1)))) dNil))) (dVar 6) (dVar 8))
  (dSetIx (dOp (addD false) (dOp ixD (dVar 6) (dVar 8)) (dOp ixD (dVar 7) (dOp (addD false) (dVar 8) (dC (.int 1))))) (dVar 7) (dVar 8)))))
  (dFrz 6 (dSeq (dDrop (dApp (dVar 3) (dVar 6)))
  (dFrz 7 (dDrop (dApp (dVar 4) (dVar 7))))))))))
  (dRet true (dVar 4)))))
theorem rd_law_table : ∀ ds M ED QD, fd_law_table ds M ED QD → td_law_table (outs M QD) (startD ["_law_most", "_law_which", "_law_ways", "_law_heads", "_law_rows", "_law_size", "_law_head", "_law_row", "_law_names", "_law_gives_here"] ds) M := by
  rintro ds M ED QD ⟨n, kk, w, W, H, R, rfl, rfl, hn, hk1, hk2, t, h⟩
  refine ⟨small1 0 (by decide), fun p' hp' => ?_⟩
  refine ⟨small1 0 (by decide), fun p hp => ?_⟩
  refine ⟨_, rfl, (n : Int) + 1, rfl, by omega, by omega, fun j sl M => ∃ a b c d e, sl = [some (.int n), some (.int w), some (lli (tk W kk)), some (.ref p'), some (.ref p), a, b, c, d, e] ∧ M = [(p', .lst ((tk H j).map li)), (p, .lst ((tk R j).map li))], ⟨_, _, _, _, _, rfl, rfl⟩, fun _ _ _ _ _ => trivial, ?_, ?_⟩
  · rintro j sl M hj ⟨a, b, c, d, e, rfl, rfl⟩
    replace hj : j < ((n : Int) + 1).toNat := hj
    have hj : j < 17 := by omega
    have hjn : j ≤ n := by omega
    have hj4 : j < 41 := by omega
    have hb : 1 * ((0 + (j : Nat) * 1 : Int) + 3).toNat ≤ sizeLine := small1 _ (by omega)
    have hb2 : 1 * ((0 + (j : Nat) * 1 : Int) + 2).toNat ≤ sizeLine := small1 _ (by omega)
    refine ⟨small1 1 (by decide), _, rfl, by show -(2 ^ 63) ≤ (0 + (j : Nat) * 1 : Int) + 2; omega, by show (0 + (j : Nat) * 1 : Int) + 2 < 2 ^ 63; omega, hb2, fun q' hq' => ?_⟩
    refine ⟨small1 1 (by decide), _, rfl, by show -(2 ^ 63) ≤ (0 + (j : Nat) * 1 : Int) + 3; omega, by show (0 + (j : Nat) * 1 : Int) + 3 < 2 ^ 63; omega, hb, fun q hq => ?_⟩
    have e0 : (List.replicate ((0 + (j : Nat) * 1 : Int) + 3).toNat [D.int 0]).flatten = (zr R j 0).map .int := by rw [zero_row, zr_0 t.okR hj4, show ((0 + (j : Nat) * 1 : Int) + 3).toNat = j + 3 by omega]
    have e0' : (List.replicate ((0 + (j : Nat) * 1 : Int) + 2).toNat [D.int 0]).flatten = (zr H j 0).map .int := by rw [zero_row, zh_0 t.okH hj4, show ((0 + (j : Nat) * 1 : Int) + 2).toNat = j + 2 by omega]
    refine ⟨_, rfl, (0 + (j : Nat) * 1 : Int) + 1, -1, -1, _, rfl, RgC.neg (by omega) (by omega) (by decide) (by decide), fun i sl M => ∃ c d, sl = [some (.int n), some (.int w), some (lli (tk W kk)), some (.ref p'), some (.ref p), some (.int (0 + (j : Nat) * 1)), some (.ref q'), some (.ref q), c, d] ∧ M = [(p', .lst ((tk H j).map li)), (p, .lst ((tk R j).map li)), (q', .lst ((zr H j i).map .int)), (q, .lst ((zr R j i).map .int))], ⟨_, _, rfl, ?_⟩, fun _ _ _ _ _ => trivial, ?_, ?_⟩
    · rw [← e0, ← e0']; rfl
    · rintro i sl M hi ⟨c, d, rfl, rfl⟩
      replace hi : i < ((0 + (j : Nat) * 1 : Int) + 1 - -1).toNat := hi
      have hi : i < j + 2 := by omega
      have en := nm_eq hi
      have lz := zh_len t.okH (i := i) hj4
      have lz' := zh_len t.okH (i := i + 1) hj4
      have lz2 := zr_len t.okR (i := i) hj4
      have e1 : (0 + (j : Nat) * 1 : Int) + 1 + (i : Nat) * (-1) + 1 = ((j + 1 - i + 1 : Nat) : Int) := by omega
      have lH : (tk H j).length = j := by rw [List.length_map, List.length_take, t.okH.len]; omega
      have lR : (tk R j).length = j := t.okR.len_tk (by omega)
      have lW : (tk W kk).length = kk := by rw [List.length_map, List.length_take, t.wl]; omega
      refine ⟨_, rfl, _, rfl, ite_var rfl rfl ?_⟩
      refine ⟨_, rfl, _, rfl, _, rfl, _, rfl, rfl, (if w = 1 then p' else p), p, (if w = 1 then 0 else 1), 1, tk (if w = 1 then H else R) j, tk R j, tk W kk, j, j + 1 - i, ?_, ?_, rfl, ?_, sm_tk t.okR.small _, sm_tk t.ws _, ?_, by rw [lR]; exact Nat.le_refl _, by rw [lW]; omega, ?_, ?_, by omega, by omega, ?_⟩
      · show [if xorB false (decide (w = 1)) = true then D.ref p' else D.ref p, D.ref p, lli (tk W kk), D.int (0 + (j : Nat) * 1), D.int ((0 + (j : Nat) * 1 : Int) + 1 + (i : Nat) * (-1))] = _
        rw [en, show (0 + (j : Nat) * 1 : Int) = j by omega]
        by_cases hw : w = 1
        · rw [if_pos hw, decide_eq_true hw]; rfl
        · rw [if_neg hw, decide_eq_false hw]; rfl
      · by_cases hw : w = 1
        · rw [if_pos hw, if_pos hw, if_pos hw]; rfl
        · rw [if_neg hw, if_neg hw, if_neg hw]; rfl
      · by_cases hw : w = 1
        · rw [if_pos hw]; exact sm_tk t.okH.small _
        · rw [if_neg hw]; exact sm_tk t.okR.small _
      · by_cases hw : w = 1
        · rw [if_pos hw, lH]; exact Nat.le_refl _
        · rw [if_neg hw, lR]; exact Nat.le_refl _
      · intro f hf
        have a2 : ((tk R j).getD f []).length = f + 3 := by rw [tk_getD hf, List.length_map, (t.okR.rows f (by omega)).1]
        have a1 : ((tk H j).getD f []).length = f + 2 := by rw [tk_getD hf, List.length_map, t.okH.rows f (by omega)]
        by_cases hw : w = 1
        · rw [if_pos hw]; omega
        · rw [if_neg hw]; omega
      · rw [tk_getD (by omega), List.length_map, t.wr _ (by omega)]
        exact Nat.le_refl _
      have ec := t.cH (n := kk) (m := j + 1 - i) hj (by omega) (by omega)
      have ec2 := t.cR (m := j + 1 - i) hj (by omega)
      have ev : ∀ z : Int, z = (dl j (j + 1 - i) : Nat) → ((zr H j i).map D.int).set (j + 1 - i) (.int (givM (tk W kk) (tk (if w = 1 then H else R) j) (tk R j) j (j + 1 - i) j + z)) = (zr H j (i + 1)).map D.int := fun z ez => set_i (by rw [ez]; exact ec) (zh_set t.okH hj4 hi)
      have ix : ixN ((zr H j i).map D.int).length ((0 + (j : Nat) * 1 : Int) + 1 + (i : Nat) * (-1)) = some (j + 1 - i) := by
        rw [en, List.length_map]
        exact ixN_nat (by omega)
      have ix2 : ixN ((zr R j i).map D.int).length ((0 + (j : Nat) * 1 : Int) + 1 + (i : Nat) * (-1)) = some (j + 1 - i) := by
        rw [en, List.length_map]
        exact ixN_nat (by omega)
      have ev2 : ((zr R j i).map D.int).set (j + 1 - i) (.int ((zr H j (i + 1)).getD (j + 1 - i) 0 + (zr R j i).getD (j + 1 - i + 1) 0)) = (zr R j (i + 1)).map D.int := by
        refine set_i ?_ (zr_set t.okR hj4 hi)
        rw [zr_get (by omega), zr_get (by omega)]
        exact ec2
      have at2 : atI ((zr H j (i + 1)).map D.int) ((0 + (j : Nat) * 1 : Int) + 1 + (i : Nat) * (-1)) = some (.int ((zr H j (i + 1)).getD (j + 1 - i) 0)) := atI_i _ en (by omega)
      refine ⟨_, rfl, _, rfl, _, rfl, ite2 (fun e => ?_) (fun e => ?_)⟩
      · have h0 : j = 0 := by have := of_decide_eq_true e; omega
        have ev1 := ev _ (by rw [← dl_t (m := j + 1 - i) h0, ← en])
        refine ⟨_, rfl, _, rfl, _, rfl, 2, _, rfl, j + 1 - i, ix, ?_⟩
        refine ⟨_, rfl, _, rfl, 2, _, rfl, _, (congrArg (fun z => atI z ((0 + (j : Nat) * 1 : Int) + 1 + (i : Nat) * (-1))) ev1).trans at2, _, rfl, _, rfl, 3, _, rfl, _, atI_i _ e1 (by omega), ?_⟩
        refine ⟨_, rfl, _, rfl, 3, _, rfl, j + 1 - i, ix2, _, _, rfl, ?_⟩
        exact cg2 (fun y z => [(p', N.lst ((tk H j).map li)), (p, N.lst ((tk R j).map li)), (q', N.lst y), (q, N.lst z)]) ev1 ev2
      · have h0 : j ≠ 0 := fun z => e (decide_eq_true (by omega))
        have ev1 := ev _ (dl_f h0)
        refine ⟨_, rfl, _, rfl, 2, _, rfl, j + 1 - i, ix, ?_⟩
        refine ⟨_, rfl, _, rfl, 2, _, rfl, _, (congrArg (fun z => atI z ((0 + (j : Nat) * 1 : Int) + 1 + (i : Nat) * (-1))) ev1).trans at2, _, rfl, _, rfl, 3, _, rfl, _, atI_i _ e1 (by omega), ?_⟩
        refine ⟨_, rfl, _, rfl, 3, _, rfl, j + 1 - i, ix2, _, _, rfl, ?_⟩
        exact cg2 (fun y z => [(p', N.lst ((tk H j).map li)), (p, N.lst ((tk R j).map li)), (q', N.lst y), (q, N.lst z)]) ev1 ev2
    · rintro sl M ⟨c, d, rfl, rfl⟩
      have hl : (tk H j).length = j := by rw [List.length_map, List.length_take, t.okH.len]; omega
      have hl2 : (tk R j).length = j := t.okR.len_tk (by omega)
      have es : (itRange ((0 + (j : Nat) * 1 : Int) + 1) (-1) ((0 + (j : Nat) * 1 : Int) + 1 - -1).toNat).n = j + 2 := by show ((0 + (j : Nat) * 1 : Int) + 1 - -1).toNat = j + 2; omega
      refine ⟨q', 2, _, rfl, rfl, _, rfl, ⟨0, _, rfl⟩, _, rfl, 0, _, rfl, ?_, ?_⟩
      · show ((tk H j).map li).length < sizeLine
        rw [List.length_map, hl]
        exact small1000 (by omega)
      refine ⟨q, 2, _, rfl, rfl, _, rfl, ⟨1, _, rfl⟩, _, rfl, 1, _, rfl, ?_, _, _, _, _, _, rfl, ?_⟩
      · show ((tk R j).map li).length < sizeLine
        rw [List.length_map, hl2]
        exact small1000 (by omega)
      · refine cg2 (fun y z => [(p', N.lst y), (p, N.lst z)]) (app_l ?_) (app_l ?_)
        · rw [th_succ t.okH hj4, es, zr_n]
        · rw [tk_succ t.okR hj4, es, zr_n]
  · rintro sl M ⟨a, b, c, d, e, rfl, rfl⟩
    refine ⟨_, rfl, 1, _, rfl, ?_⟩
    have e : ((n : Int) + 1).toNat = n + 1 := by omega
    refine .none ?_
    show QD (lli (tk R ((n : Int) + 1).toNat)) []
    rw [e]
    exact h
end Once

/-! L51c: the law. -/
namespace Once
open PySem PySem.Spec L2 OD
def td_law_b_law_which : DS :=
  (dSeq (dAsg (dOp ixD (dCall0 fd_law_table [] (dCons (dVar 2) (dCons (dVar 5) (dCons (dIf (dTest (dOp (eqD false) (dVar 5) (dC (.int 2)))) (dVar 4) (dVar 3)) dNil)))) (dVar 2)) (dName 6))
  (dFor (diRange1 (dCons (dOp (addD false) (dVar 2) (dC (.int 2))) dNil)) (dName 7) (dSeq (dAsg (dPick3 fd_many fd_many_rests fd_many_in_order [] 5 (dCons (dVar 2) (dCons (dVar 7) dNil))) (dName 8))
  (dIfS (dOr (dNot (dTru (dCall0 fd_law_is_number [] (dCons (dVar 8) dNil)))) (dTest (dOp (eqD true) (dVar 8) (dOp ixD (dVar 6) (dVar 7))))) (dRet false (dC (.bl false))) dNext))))
def td_law_2 : DS :=
  (dSeq (dAsg (dCall0 fd_law_choose [] (dCons (dOp (addD false) (dVar 2) (dC (.int 1))) dNil)) (dName 3))
  (dSeq (dAsg (dLc false (diRange1 (dCons (dOp (addD false) (dVar 2) (dC (.int 2))) dNil)) [7] (dName 7) dYes (dOp (mulD false) (dLst false (dCons (dC (.int 1)) dNil)) (dOp (addD false) (dVar 7) (dC (.int 1))))) (dName 4))
  (dSeq (dFor (diRange1 (dCons (dC (.int 3)) dNil)) (dName 5) td_law_b_law_which)
  (dRet false (dC (.bl true))))))
def td_law : DS :=
  (dSeq (dAsg (dCall0 fd_law_pot [] (dCons (dVar 0) dNil)) (dName 1))
  (dSeq (dAsg (dIf (dTest (dOp (eqD false) (dCall0 fd_law_draw [0, 1, 2] (dCons (dVar 1) (dCons (dC (.int 12)) dNil))) (dC (.int 4)))) (dCall0 fd_law_draw [0, 1, 2] (dCons (dVar 1) (dCons (dC (.int 17)) dNil))) (dCall0 fd_law_draw [0, 1, 2] (dCons (dVar 1) (dCons (dC (.int 9)) dNil)))) (dName 2))
  td_law_2))
abbrev N_law : List Str := ["_law_script", "_law_pot_here", "_law_most", "_law_ways", "_law_once", "_law_which", "_law_due", "_law_names", "_law_told"]
def vM (A : List (List Nat)) (s k : Nat) : Int := if k ≤ s + 1 then cl A s k * (fac k : Nat) else 0
def vO (A : List (List Nat)) (s k : Nat) : Int := if k ≤ s + 1 then cl A s k else 0
noncomputable def chk3 (n : Nat) : Bool := allN (fun m => decide (vM tT n m = cl rW0 n m) && decide (vM tR n m = cl rW1 n m) && decide (vO tO n m = cl rW2 n m)) (n + 2)
theorem chk3_all : allN chk3 17 = true := by decide +kernel
theorem chk3_at {n m : Nat} (hn : n < 17) (hm : m < n + 2) : vM tT n m = cl rW0 n m ∧ vM tR n m = cl rW1 n m ∧ vO tO n m = cl rW2 n m := by
  have h := allN_of (allN_of chk3_all n hn) m hm
  rw [Bool.and_eq_true, Bool.and_eq_true] at h
  exact ⟨of_decide_eq_true h.1.1, of_decide_eq_true h.1.2, of_decide_eq_true h.2⟩
theorem dn {i : Nat} {d : D} {sl : Slots} {M : Mem} {Q : Slots → Mem → Prop} (h : Q (sl.set i (some d)) M) : dName i d sl M Q := h
theorem body_ok {n : Nat} (hn : n ≤ 16) {w : Int} {W H R : List (List Nat)} (t : TW w W H R) (hW : W = if w = 2 then c1 else cB) {F : FD} {V : Nat → Int} (pk : (w = 0 ∧ F = fd_many) ∨ (w = 1 ∧ F = fd_many_rests) ∨ (w = 2 ∧ F = fd_many_in_order))
    (hF : ∀ m, m < n + 2 → ∀ Q : DK, Q (.int (V m)) [] → F [.int n, .int m] [] (fun _ _ _ => False) Q) (hV : ∀ m, m < n + 2 → V m = cl R n m) {x0 a b c : Option D} {p g s : Addr} {pc : PotC} (Dd : DEnds)
    (hd : ∀ a b c, Dd.nx [x0, some (.ref p), some (.int n), some (lli (tk cB (n + 2))), some (lli (tk c1 (n + 2))), a, b, c, c] (potM p g s pc) → True)
    (hnx : ∀ a b c d, Dd.nx [x0, some (.ref p), some (.int n), some (lli (tk cB (n + 2))), some (lli (tk c1 (n + 2))), a, b, c, d] (potM p g s pc)) :
    td_law_b_law_which Dd [x0, some (.ref p), some (.int n), some (lli (tk cB (n + 2))), some (lli (tk c1 (n + 2))), some (.int w), a, b, c] (potM p g s pc) := by
  refine ⟨_, rfl, _, rfl, _, rfl, _, rfl, ite_var rfl rfl ?_⟩
  have lR : (tk R (n + 1)).length = n + 1 := t.okR.len_tk (by omega)
  have lr : (tk R (n + 1)).getD n [] = zi (R.getD n []) := tk_getD (by omega)
  refine ⟨rfl, n, n + 2, w, W, H, R, ?_, rfl, hn, Nat.le_refl _, by omega, t, _, rfl, _, atI_l n rfl (by omega), ?_⟩
  · show [D.int n, D.int w, if xorB false (decide (w = 2)) = true then lli (tk c1 (n + 2)) else lli (tk cB (n + 2))] = _
    by_cases hw : w = 2
    · rw [hW, if_pos hw, decide_eq_true hw]; rfl
    · rw [hW, if_neg hw, decide_eq_false hw]; rfl
  refine ⟨_, rfl, (n : Int) + 2, rfl, by omega, by omega, fun j sl M => M = potM p g s pc ∧ ∃ b c, sl = [x0, some (.ref p), some (.int n), some (lli (tk cB (n + 2))), some (lli (tk c1 (n + 2))), some (.int w), some (li ((tk R (n + 1)).getD n [])), b, c], ⟨rfl, _, _, rfl⟩, fun _ _ _ _ _ => trivial, ?_, ?_⟩
  · rintro j sl M hj ⟨rfl, b, c, rfl⟩
    replace hj : j < ((n : Int) + 2).toNat := hj
    have hj : j < n + 2 := by omega
    have ej : (0 + (j : Nat) * 1 : Int) = (j : Nat) := by omega
    refine ⟨F, ?_, _, rfl, _, rfl, rfl, ?_⟩
    · rcases pk with ⟨rfl, e⟩ | ⟨rfl, e⟩ | ⟨rfl, e⟩
      · exact .inl ⟨rfl, e⟩
      · exact .inr (.inl ⟨rfl, e⟩)
      · exact .inr (.inr ⟨rfl, e⟩)
    show F [.int n, .int (0 + (j : Nat) * 1)] [] _ _
    rw [ej]
    refine hF j hj _ ?_
    have ai : atI (((tk R (n + 1)).getD n []).map D.int) (0 + (j : Nat) * 1) = some (.int (((tk R (n + 1)).getD n []).getD j 0)) := atI_i j ej (by rw [lr, List.length_map, (t.okR.rows n (by omega)).1]; omega)
    refine ⟨_, rfl, rfl, V j, rfl, rfl, ?_⟩
    refine ⟨_, rfl, _, rfl, _, rfl, _, ai, _, rfl, iteD ?_ ⟨rfl, _, _, rfl⟩⟩
    rw [lr, zi_getD, decide_eq_true (hV j hj)]
    rfl
  · rintro sl M ⟨rfl, b, c, rfl⟩
    exact hnx _ _ _ _
theorem once_rows : ∀ k, k < 20 → (zi (c1.getD k []) = List.replicate (k + 1) 1) := by decide +kernel
theorem once_all : ∀ k, k < 20 → ((List.range k).map fun j => zi (c1.getD j [])) = tk c1 k := by decide +kernel
theorem one_row (n : Nat) : (List.replicate n [D.int 1]).flatten = (List.replicate n (1 : Int)).map D.int := by
  induction n with
  | zero => rfl
  | succ n ih => rw [List.replicate_succ, List.flatten_cons, ih, List.replicate_succ]; rfl
theorem rd_law_2 {QD : DK} (h : QD (.bl true) []) {n : Nat} (hn : n ≤ 16) {x0 : Option D} {p g a : Addr} {c : PotC} : td_law_2 (outs [] QD) [x0, some (.ref p), some (.int n), none, none, none, none, none, none] (potM p g a c) := by
  refine ⟨_, rfl, rfl, n + 1, rfl, rfl, by omega, ?_⟩
  refine dn ?_
  dsimp only
  refine lc_map (itRange 0 1 (n + 2)) (fun _ => true) (fun j => li (zi (c1.getD j []))) ?_ trivial (by show n + 2 ≤ 1000; omega) (fun j hj Q q => q) ?_ ?_
  · exact fun RD hr => ⟨_, rfl, (n : Int) + 2, rfl, by omega, by omega, by rw [show ((n : Int) + 2).toNat = n + 2 by omega]; exact hr⟩
  · intro j hj _ Q q
    replace hj : j < n + 2 := hj
    have e : (List.replicate ((0 + (j : Nat) * 1 : Int) + 1).toNat [D.int 1]).flatten = (zi (c1.getD j [])).map D.int := by rw [one_row, once_rows j (by omega), show ((0 + (j : Nat) * 1 : Int) + 1).toNat = j + 1 by omega]
    refine ⟨small1 1 (by decide), _, rfl, by show -(2 ^ 63) ≤ (0 + (j : Nat) * 1 : Int) + 1; omega, by show (0 + (j : Nat) * 1 : Int) + 1 < 2 ^ 63; omega, ?_, ?_⟩
    · show 1 * ((0 + (j : Nat) * 1 : Int) + 1).toNat ≤ sizeLine
      exact small1 _ (by omega)
    · show Q (.lst (List.replicate ((0 + (j : Nat) * 1 : Int) + 1).toNat [D.int 1]).flatten) _
      rw [e]
      exact q
  have eo : ((List.range (n + 2)).filter fun _ => true).map (fun j => li (zi (c1.getD j []))) = (tk c1 (n + 2)).map li := by
    rw [filter_all, ← once_all (n + 2) (by omega), List.map_map]
    rfl
  show al false (.lst (((List.range (n + 2)).filter fun _ => true).map (fun j => li (zi (c1.getD j []))))) _ _
  rw [eo]
  refine ⟨3, rfl, by decide, by decide, fun j sl M => M = potM p g a c ∧ ∃ x y z u, sl = [x0, some (.ref p), some (.int n), some (lli (tk cB (n + 2))), some (lli (tk c1 (n + 2))), x, y, z, u], ⟨rfl, _, _, _, _, rfl⟩, fun _ _ _ _ _ => trivial, ?_, ?_⟩
  · rintro j sl M hj ⟨rfl, x, y, z, u, rfl⟩
    replace hj : j < 3 := hj
    have h3 : j = 0 ∨ j = 1 ∨ j = 2 := by omega
    rcases h3 with rfl | rfl | rfl
    · exact body_ok hn tw0 rfl (F := fd_many) (V := vM tT n) (.inl ⟨rfl, rfl⟩) (fun m hm Q q => ⟨n, m, rfl, rfl, by omega, by omega, q⟩) (fun m hm => (chk3_at (by omega) hm).1) _ (fun _ _ _ _ => trivial) fun _ _ _ _ => ⟨rfl, _, _, _, _, rfl⟩
    · exact body_ok hn tw1 rfl (F := fd_many_rests) (V := vM tR n) (.inr (.inl ⟨rfl, rfl⟩)) (fun m hm Q q => ⟨n, m, rfl, rfl, by omega, by omega, q⟩) (fun m hm => (chk3_at (by omega) hm).2.1) _ (fun _ _ _ _ => trivial) fun _ _ _ _ => ⟨rfl, _, _, _, _, rfl⟩
    · exact body_ok hn tw2 rfl (F := fd_many_in_order) (V := vO tO n) (.inr (.inr ⟨rfl, rfl⟩)) (fun m hm Q q => ⟨n, m, rfl, rfl, by omega, by omega, q⟩) (fun m hm => (chk3_at (by omega) hm).2.2) _ (fun _ _ _ _ => trivial) fun _ _ _ _ => ⟨rfl, _, _, _, _, rfl⟩
  · rintro sl M ⟨rfl, x, y, z, u, rfl⟩
    exact .none h
theorem rd_law : ∀ ds M ED QD, fdLaw ds M ED QD → td_law (outs M QD) (startD N_law ds) M := by
  rintro ds M ED QD ⟨ns, rfl, rfl, hn, h⟩
  refine ⟨_, rfl, rfl, ns, rfl, rfl, hn, fun p g a c hc => ?_⟩
  refine ⟨_, rfl, rfl, p, g, a, c, 12, rfl, rfl, hc, by decide, by decide, fun r c' h0 h1 hc' => ?_⟩
  refine ⟨_, rfl, ite2 (fun e => ?_) (fun e => ?_)⟩
  · refine ⟨_, rfl, rfl, p, g, a, c', 17, rfl, rfl, hc', by decide, by decide, fun r c' h0 h1 hc' => ?_⟩
    obtain ⟨k, rfl⟩ : ∃ k : Nat, r = k := ⟨r.toNat, by omega⟩
    exact rd_law_2 h (by omega)
  · refine ⟨_, rfl, rfl, p, g, a, c', 9, rfl, rfl, hc', by decide, by decide, fun r c' h0 h1 hc' => ?_⟩
    obtain ⟨k, rfl⟩ : ∃ k : Nat, r = k := ⟨r.toNat, by omega⟩
    exact rd_law_2 h (by omega)
end Once

namespace Once
open PySem PySem.Spec L2 OD
abbrev topS (i : Nat) : Stmt := PySem.Challenge.pw_oncekinds_k51_counts_by_a_table.main.body.getD i (.Pass ⟨0, 0, 0, 0⟩)
section
variable {P : Program} {w : World} {K : PySem.W.Frag} {mg : Str → Option Value} {base : Heap}
abbrev s_is_integer : Stmt := topS 4
theorem sc_is_integer : FnScope ["thing"] ["thing"] (defScope s_is_integer) := ⟨rfl, rfl, rfl, by decide +kernel, rfl, by decide +kernel, by decide +kernel⟩
theorem ok_is_integer {f : Addr} {fd : FuncData} (F : Fun K "is_integer" "is_integer" s_is_integer f fd) (m : mg "is_integer" = some (.ref f)) (z_isinstance : mg "isinstance" = none) (z_int : mg "int" = none) (z_bool : mg "bool" = none) : DefOk P w K mg base 1 "is_integer" ["thing"] fd_is_integer := by
  exact .of F m (F.binds fun _ _ _ _ _ _ us hl => match us, hl with | [_], _ => rfl) sc_is_integer len_is_integer (fun cdv A outer s H E hr => by
    have hu := hr.units
    have nd := sc_is_integer.nd
    exact (db_one (ds_ret false (de_and (de_callB call_isi sc_isi z_isinstance (da_cons (de_var (pv 0)) (da_cons (de_bltn (v := .ty "int") (u := .type "int") rfl z_int (by decide +kernel) rfl (fun _ _ => .ty _)) da_nil))) (de_one (de_not (de_callB call_isi sc_isi z_isinstance (da_cons (de_var (pv 0)) (da_cons (de_bltn (v := .ty "bool") (u := .type "bool") rfl z_bool (by decide +kernel) rfl (fun _ _ => .ty _)) da_nil))))))))) rd_is_integer
abbrev s_is_within : Stmt := topS 5
theorem sc_is_within : FnScope ["thing", "least", "most"] ["thing", "least", "most"] (defScope s_is_within) := ⟨rfl, rfl, rfl, by decide +kernel, rfl, by decide +kernel, by decide +kernel⟩
theorem ok_is_within {f : Addr} {fd : FuncData} (F : Fun K "is_within" "is_within" s_is_within f fd) (m : mg "is_within" = some (.ref f)) (c_is_integer : DefOk P w K mg base 1 "is_integer" ["thing"] fd_is_integer) : DefOk P w K mg base 2 "is_within" ["thing", "least", "most"] fd_is_within := by
  exact .of F m (F.binds fun _ _ _ _ _ _ us hl => match us, hl with | [_, _, _], _ => rfl) sc_is_within len_is_within (fun cdv A outer s H E hr => by
    have hu := hr.units
    have nd := sc_is_within.nd
    exact (db_one (ds_ret false (de_and (de_callD c_is_integer (hr.mono (by decide)) [] (da_cons (de_var (pv 0)) da_nil)) (de_one (de_chain op_leA sv_ord op_leA sv_ord (de_var (pv 1)) (de_var (pv 0)) (de_var (pv 2)))))))) rd_is_within
abbrev s_check_number : Stmt := topS 6
theorem sc_check_number : FnScope ["thing", "least", "most"] ["thing", "least", "most"] (defScope s_check_number) := ⟨rfl, rfl, rfl, by decide +kernel, rfl, by decide +kernel, by decide +kernel⟩
theorem ok_check_number {f : Addr} {fd : FuncData} (F : Fun K "check_number" "check_number" s_check_number f fd) (m : mg "check_number" = some (.ref f)) (c_is_within : DefOk P w K mg base 2 "is_within" ["thing", "least", "most"] fd_is_within) : DefOk P w K mg base 3 "check_number" ["thing", "least", "most"] fd_check_number := by
  exact .of F m (F.binds fun _ _ _ _ _ _ us hl => match us, hl with | [_, _, _], _ => rfl) sc_check_number len_check_number (fun cdv A outer s H E hr => by
    have hu := hr.units
    have nd := sc_check_number.nd
    exact (db_one (ds_if (dt_not (dt_tru (de_callD c_is_within (hr.mono (by decide)) [] (da_cons (de_var (pv 0)) (da_cons (de_var (pv 1)) (da_cons (de_var (pv 2)) da_nil)))))) (db_one ds_never) db_nil))) rd_check_number
abbrev s_factorial_of : Stmt := topS 9
theorem sc_factorial_of : FnScope ["number", "found", "factor"] ["number"] (defScope s_factorial_of) := ⟨rfl, rfl, rfl, by decide +kernel, rfl, by decide +kernel, by decide +kernel⟩
theorem ok_factorial_of {f : Addr} {fd : FuncData} (F : Fun K "factorial_of" "factorial_of" s_factorial_of f fd) (m : mg "factorial_of" = some (.ref f)) (z_range : mg "range" = none) : DefOk P w K mg base 1 "factorial_of" ["number"] fd_factorial_of := by
  exact .of F m (F.binds fun _ _ _ _ _ _ us hl => match us, hl with | [_], _ => rfl) sc_factorial_of len_factorial_of (fun cdv A outer s H E hr => by
    have hu := hr.units
    have nd := sc_factorial_of.nd
    exact (db_cons (ds_set (i := 1) nd de_int)
      (db_cons (ds_for PassesOwn.never rfl (di_range2 z_range (da_cons de_int (da_cons (de_op op_addA (sv_add (o := false)) (de_var (pv 0)) de_int) da_nil))) (dg_name (i := 2) nd) (db_one (ds_set (i := 1) nd (de_op op_mulA (sv_mul (o := false)) (de_var (pv 1)) (de_var (pv 2))))))
      (db_one (ds_ret false (de_var (pv 1))))))) rd_factorial_of
abbrev s_pairs : Stmt := topS 10
theorem sc_pairs : FnScope ["heads", "rows", "size", "names", "found", "first", "left", "right", "low", "few"] ["heads", "rows", "size", "names"] (defScope s_pairs) := ⟨rfl, rfl, rfl, by decide +kernel, rfl, by decide +kernel, by decide +kernel⟩
theorem ok_pairs {f : Addr} {fd : FuncData} (F : Fun K "pairs" "pairs" s_pairs f fd) (m : mg "pairs" = some (.ref f)) (z_range : mg "range" = none) (z_sum : mg "sum" = none) (z_min : mg "min" = none) (z_max : mg "max" = none) : DefOk P w K mg base 1 "pairs" ["heads", "rows", "size", "names"] fd_pairs := by
  exact .of F m (F.binds fun _ _ _ _ _ _ us hl => match us, hl with | [_, _, _, _], _ => rfl) sc_pairs len_pairs (fun cdv A outer s H E hr => by
    have hu := hr.units
    have nd := sc_pairs.nd
    exact (db_cons (ds_set (i := 4) nd de_int)
      (db_cons (ds_for PassesOwn.never rfl (di_range1 z_range (da_cons (de_var (pv 2)) da_nil)) (dg_name (i := 5) nd) (db_cons (ds_set (i := 6) nd (de_ix hu (de_var (pv 0)) (de_var (pv 5))))
      (db_cons (ds_set (i := 7) nd (de_ix hu (de_var (pv 1)) (de_op op_sub sv_sub (de_op op_sub sv_sub (de_var (pv 2)) de_int) (de_var (pv 5)))))
      (db_cons (ds_set (i := 8) nd (de_callB (call_max2 rfl) sc_max2 z_max (da_cons de_int (da_cons (de_op op_addA (sv_add (o := false)) (de_op op_sub sv_sub (de_var (pv 3)) (de_var (pv 2))) (de_var (pv 5))) da_nil))))
      (db_one (ds_aug (i := 4) nd op_iaddA sv_iadd (de_callB (cr_sum rfl) sc_sum z_sum (da_cons (de_lc false (own := [("few", 9)]) rfl nd (di_range2 z_range (da_cons (de_var (pv 8)) (da_cons (de_op op_addA (sv_add (o := false)) (de_callB (call_min2 rfl) sc_min2 z_min (da_cons (de_var (pv 3)) (da_cons (de_op op_addA (sv_add (o := false)) (de_var (pv 5)) de_int) da_nil))) de_int) da_nil))) (blkOk_by (N := ["heads", "rows", "size", "names", "found", "first", "left", "right", "low", "few"]) (sc := defScope s_pairs) (by decide +kernel)) (fun _ _ _ _ _ => (dc_name (i := 9) nd (by decide))) (fun _ _ _ _ _ => dp_nil) (fun _ _ _ _ _ => (de_op op_mulA (sv_mul (o := false)) (de_ix hu (de_var (pv 6)) (de_var (pv 9))) (de_ix hu (de_var (pv 7)) (de_op op_sub sv_sub (de_var (pv 3)) (de_var (pv 9))))))) da_nil))))))))
      (db_one (ds_ret false (de_var (pv 4))))))) rd_pairs
abbrev s_table : Stmt := topS 11
theorem sc_table : FnScope ["most", "rows", "size", "row", "names"] ["most"] (defScope s_table) := ⟨rfl, rfl, rfl, by decide +kernel, rfl, by decide +kernel, by decide +kernel⟩
theorem ok_table {f : Addr} {fd : FuncData} (F : Fun K "table" "table" s_table f fd) (m : mg "table" = some (.ref f)) (c_pairs : DefOk P w K mg base 1 "pairs" ["heads", "rows", "size", "names"] fd_pairs) (z_range : mg "range" = none) (z_int : mg "int" = none) : DefOk P w K mg base 2 "table" ["most"] fd_table := by
  exact .of F m (F.binds fun _ _ _ _ _ _ us hl => match us, hl with | [_], _ => rfl) sc_table len_table (fun cdv A outer s H E hr => by
    have hu := hr.units
    have nd := sc_table.nd
    exact (db_cons (ds_set (i := 1) nd (de_lst true da_nil))
      (db_cons (ds_for PassesOwn.never rfl (di_range1 z_range (da_cons (de_op op_addA (sv_add (o := false)) (de_var (pv 0)) de_int) da_nil)) (dg_name (i := 2) nd) (db_cons (ds_set (i := 3) nd (de_op op_mulA (sv_mul (o := true)) (de_lst false (da_cons de_int da_nil)) (de_op op_addA (sv_add (o := false)) (de_var (pv 2)) de_int)))
      (db_cons (ds_for PassesOwn.never rfl (di_range3 z_range (da_cons (de_op op_addA (sv_add (o := false)) (de_var (pv 2)) de_int) (da_cons (de_un un_neg sv_neg de_int) (da_cons (de_un un_neg sv_neg de_int) da_nil)))) (dg_name (i := 4) nd) (db_one (ds_setIx hu (de_op op_addA (sv_add (o := false)) (de_op op_addA (sv_add (o := false)) (de_op op_mulA (sv_mul (o := false)) (de_op op_addA (sv_add (o := false)) (de_var (pv 4)) de_int) (de_ix hu (de_var (pv 3)) (de_op op_addA (sv_add (o := false)) (de_var (pv 4)) de_int))) (de_callD c_pairs (hr.mono (by decide)) [0] (da_cons (de_var (pv 1)) (da_cons (de_var (pv 1)) (da_cons (de_var (pv 2)) (da_cons (de_var (pv 4)) da_nil)))))) (de_callTy call_int1 sc_int z_int (da_cons (de_and (de_cmp (op_eqA hu) sv_eq (de_var (pv 2)) de_int) (de_one (de_cmp (op_eqA hu) sv_eq (de_var (pv 4)) de_int))) da_nil))) (de_var (pv 3)) (de_var (pv 4)))))
      (db_frz 3 (db_one (ds_expr (de_app (de_var (pv 1)) (de_var (pv 3)))))))))
      (db_one (ds_ret true (de_var (pv 1))))))) rd_table
abbrev s_rest_table : Stmt := topS 12
theorem sc_rest_table : FnScope ["most", "heads", "rows", "size", "head", "row", "names"] ["most"] (defScope s_rest_table) := ⟨rfl, rfl, rfl, by decide +kernel, rfl, by decide +kernel, by decide +kernel⟩
theorem ok_rest_table {f : Addr} {fd : FuncData} (F : Fun K "rest_table" "rest_table" s_rest_table f fd) (m : mg "rest_table" = some (.ref f)) (c_pairs : DefOk P w K mg base 1 "pairs" ["heads", "rows", "size", "names"] fd_pairs) (z_range : mg "range" = none) (z_int : mg "int" = none) : DefOk P w K mg base 2 "rest_table" ["most"] fd_rest_table := by
  exact .of F m (F.binds fun _ _ _ _ _ _ us hl => match us, hl with | [_], _ => rfl) sc_rest_table len_rest_table (fun cdv A outer s H E hr => by
    have hu := hr.units
    have nd := sc_rest_table.nd
    exact (db_cons (ds_set (i := 1) nd (de_lst true da_nil))
      (db_cons (ds_set (i := 2) nd (de_lst true da_nil))
      (db_cons (ds_for PassesOwn.never rfl (di_range1 z_range (da_cons (de_op op_addA (sv_add (o := false)) (de_var (pv 0)) de_int) da_nil)) (dg_name (i := 3) nd) (db_cons (ds_set (i := 4) nd (de_op op_mulA (sv_mul (o := true)) (de_lst false (da_cons de_int da_nil)) (de_op op_addA (sv_add (o := false)) (de_var (pv 3)) de_int)))
      (db_cons (ds_set (i := 5) nd (de_op op_mulA (sv_mul (o := true)) (de_lst false (da_cons de_int da_nil)) (de_op op_addA (sv_add (o := false)) (de_var (pv 3)) de_int)))
      (db_cons (ds_for PassesOwn.never rfl (di_range3 z_range (da_cons (de_op op_addA (sv_add (o := false)) (de_var (pv 3)) de_int) (da_cons (de_un un_neg sv_neg de_int) (da_cons (de_un un_neg sv_neg de_int) da_nil)))) (dg_name (i := 6) nd) (db_cons (ds_setIx hu (de_op op_addA (sv_add (o := false)) (de_callD c_pairs (hr.mono (by decide)) [0, 1] (da_cons (de_var (pv 1)) (da_cons (de_var (pv 2)) (da_cons (de_var (pv 3)) (da_cons (de_var (pv 6)) da_nil))))) (de_callTy call_int1 sc_int z_int (da_cons (de_and (de_cmp (op_eqA hu) sv_eq (de_var (pv 3)) de_int) (de_one (de_cmp (op_eqA hu) sv_eq (de_var (pv 6)) de_int))) da_nil))) (de_var (pv 4)) (de_var (pv 6)))
      (db_one (ds_setIx hu (de_op op_addA (sv_add (o := false)) (de_op op_mulA (sv_mul (o := false)) (de_op op_addA (sv_add (o := false)) (de_var (pv 6)) de_int) (de_ix hu (de_var (pv 5)) (de_op op_addA (sv_add (o := false)) (de_var (pv 6)) de_int))) (de_ix hu (de_var (pv 4)) (de_var (pv 6)))) (de_var (pv 5)) (de_var (pv 6))))))
      (db_frz 4 (db_cons (ds_expr (de_app (de_var (pv 1)) (de_var (pv 4))))
      (db_frz 5 (db_one (ds_expr (de_app (de_var (pv 2)) (de_var (pv 5))))))))))))
      (db_one (ds_ret true (de_var (pv 2)))))))) rd_rest_table
abbrev s_order_table : Stmt := topS 13
theorem sc_order_table : FnScope ["most", "rows", "size", "row", "names"] ["most"] (defScope s_order_table) := ⟨rfl, rfl, rfl, by decide +kernel, rfl, by decide +kernel, by decide +kernel⟩
theorem ok_order_table {f : Addr} {fd : FuncData} (F : Fun K "order_table" "order_table" s_order_table f fd) (m : mg "order_table" = some (.ref f)) (c_pairs : DefOk P w K mg base 1 "pairs" ["heads", "rows", "size", "names"] fd_pairs) (z_range : mg "range" = none) (z_int : mg "int" = none) : DefOk P w K mg base 2 "order_table" ["most"] fd_order_table := by
  exact .of F m (F.binds fun _ _ _ _ _ _ us hl => match us, hl with | [_], _ => rfl) sc_order_table len_order_table (fun cdv A outer s H E hr => by
    have hu := hr.units
    have nd := sc_order_table.nd
    exact (db_cons (ds_set (i := 1) nd (de_lst true da_nil))
      (db_cons (ds_for PassesOwn.never rfl (di_range1 z_range (da_cons (de_op op_addA (sv_add (o := false)) (de_var (pv 0)) de_int) da_nil)) (dg_name (i := 2) nd) (db_cons (ds_set (i := 3) nd (de_op op_mulA (sv_mul (o := true)) (de_lst false (da_cons de_int da_nil)) (de_op op_addA (sv_add (o := false)) (de_var (pv 2)) de_int)))
      (db_cons (ds_for PassesOwn.never rfl (di_range3 z_range (da_cons (de_op op_addA (sv_add (o := false)) (de_var (pv 2)) de_int) (da_cons (de_un un_neg sv_neg de_int) (da_cons (de_un un_neg sv_neg de_int) da_nil)))) (dg_name (i := 4) nd) (db_one (ds_setIx hu (de_op op_addA (sv_add (o := false)) (de_op op_addA (sv_add (o := false)) (de_ix hu (de_var (pv 3)) (de_op op_addA (sv_add (o := false)) (de_var (pv 4)) de_int)) (de_callD c_pairs (hr.mono (by decide)) [0] (da_cons (de_var (pv 1)) (da_cons (de_var (pv 1)) (da_cons (de_var (pv 2)) (da_cons (de_var (pv 4)) da_nil)))))) (de_callTy call_int1 sc_int z_int (da_cons (de_and (de_cmp (op_eqA hu) sv_eq (de_var (pv 2)) de_int) (de_one (de_cmp (op_eqA hu) sv_eq (de_var (pv 4)) de_int))) da_nil))) (de_var (pv 3)) (de_var (pv 4)))))
      (db_frz 3 (db_one (ds_expr (de_app (de_var (pv 1)) (de_var (pv 3)))))))))
      (db_one (ds_ret true (de_var (pv 1))))))) rd_order_table
abbrev s_check_counts : Stmt := topS 14
theorem sc_check_counts : FnScope ["size", "names"] ["size", "names"] (defScope s_check_counts) := ⟨rfl, rfl, rfl, by decide +kernel, rfl, by decide +kernel, by decide +kernel⟩
theorem ok_check_counts {f : Addr} {fd : FuncData} (F : Fun K "check_counts" "check_counts" s_check_counts f fd) (m : mg "check_counts" = some (.ref f)) (c_check_number : DefOk P w K mg base 3 "check_number" ["thing", "least", "most"] fd_check_number) (m_MOST : ∃ t, mg "MOST" = some (.int 40 t)) : DefOk P w K mg base 4 "check_counts" ["size", "names"] fd_check_counts := by
  obtain ⟨t_MOST, m_MOST⟩ := m_MOST
  exact .of F m (F.binds fun _ _ _ _ _ _ us hl => match us, hl with | [_, _], _ => rfl) sc_check_counts len_check_counts (fun cdv A outer s H E hr => by
    have hu := hr.units
    have nd := sc_check_counts.nd
    exact (db_cons (ds_expr (de_callD c_check_number (hr.mono (by decide)) [] (da_cons (de_var (pv 0)) (da_cons de_int (da_cons (de_glob (v := .int 40) rfl m_MOST ⟨_, rfl⟩ (fun _ _ => .int _)) da_nil)))))
      (db_one (ds_expr (de_callD c_check_number (hr.mono (by decide)) [] (da_cons (de_var (pv 1)) (da_cons de_int (da_cons (de_glob (v := .int 40) rfl m_MOST ⟨_, rfl⟩ (fun _ _ => .int _)) da_nil)))))))) rd_check_counts
abbrev s_many : Stmt := topS 15
theorem sc_many : FnScope ["size", "names"] ["size", "names"] (defScope s_many) := ⟨rfl, rfl, rfl, by decide +kernel, rfl, by decide +kernel, by decide +kernel⟩
theorem ok_many {f : Addr} {fd : FuncData} (F : Fun K "many" "many" s_many f fd) (m : mg "many" = some (.ref f)) (c_table : DefOk P w K mg base 2 "table" ["most"] fd_table) (c_factorial_of : DefOk P w K mg base 1 "factorial_of" ["number"] fd_factorial_of) (c_check_counts : DefOk P w K mg base 4 "check_counts" ["size", "names"] fd_check_counts) : DefOk P w K mg base 5 "many" ["size", "names"] fd_many := by
  exact .of F m (F.binds fun _ _ _ _ _ _ us hl => match us, hl with | [_, _], _ => rfl) sc_many len_many (fun cdv A outer s H E hr => by
    have hu := hr.units
    have nd := sc_many.nd
    exact (db_cons (ds_expr (de_callD c_check_counts (hr.mono (by decide)) [] (da_cons (de_var (pv 0)) (da_cons (de_var (pv 1)) da_nil))))
      (db_one (ds_ret false (de_if (dt_cmp op_leA sv_ord (de_var (pv 1)) (de_op op_addA (sv_add (o := false)) (de_var (pv 0)) de_int)) (de_op op_mulA (sv_mul (o := false)) (de_ix hu (de_ix hu (de_callD c_table (hr.mono (by decide)) [] (da_cons (de_var (pv 0)) da_nil)) (de_var (pv 0))) (de_var (pv 1))) (de_callD c_factorial_of (hr.mono (by decide)) [] (da_cons (de_var (pv 1)) da_nil))) de_int))))) rd_many
abbrev s_many_rests : Stmt := topS 16
theorem sc_many_rests : FnScope ["size", "names"] ["size", "names"] (defScope s_many_rests) := ⟨rfl, rfl, rfl, by decide +kernel, rfl, by decide +kernel, by decide +kernel⟩
theorem ok_many_rests {f : Addr} {fd : FuncData} (F : Fun K "many_rests" "many_rests" s_many_rests f fd) (m : mg "many_rests" = some (.ref f)) (c_rest_table : DefOk P w K mg base 2 "rest_table" ["most"] fd_rest_table) (c_factorial_of : DefOk P w K mg base 1 "factorial_of" ["number"] fd_factorial_of) (c_check_counts : DefOk P w K mg base 4 "check_counts" ["size", "names"] fd_check_counts) : DefOk P w K mg base 5 "many_rests" ["size", "names"] fd_many_rests := by
  exact .of F m (F.binds fun _ _ _ _ _ _ us hl => match us, hl with | [_, _], _ => rfl) sc_many_rests len_many_rests (fun cdv A outer s H E hr => by
    have hu := hr.units
    have nd := sc_many_rests.nd
    exact (db_cons (ds_expr (de_callD c_check_counts (hr.mono (by decide)) [] (da_cons (de_var (pv 0)) (da_cons (de_var (pv 1)) da_nil))))
      (db_one (ds_ret false (de_if (dt_cmp op_leA sv_ord (de_var (pv 1)) (de_op op_addA (sv_add (o := false)) (de_var (pv 0)) de_int)) (de_op op_mulA (sv_mul (o := false)) (de_ix hu (de_ix hu (de_callD c_rest_table (hr.mono (by decide)) [] (da_cons (de_var (pv 0)) da_nil)) (de_var (pv 0))) (de_var (pv 1))) (de_callD c_factorial_of (hr.mono (by decide)) [] (da_cons (de_var (pv 1)) da_nil))) de_int))))) rd_many_rests
abbrev s_many_in_order : Stmt := topS 17
theorem sc_many_in_order : FnScope ["size", "names"] ["size", "names"] (defScope s_many_in_order) := ⟨rfl, rfl, rfl, by decide +kernel, rfl, by decide +kernel, by decide +kernel⟩
theorem ok_many_in_order {f : Addr} {fd : FuncData} (F : Fun K "many_in_order" "many_in_order" s_many_in_order f fd) (m : mg "many_in_order" = some (.ref f)) (c_order_table : DefOk P w K mg base 2 "order_table" ["most"] fd_order_table) (c_check_counts : DefOk P w K mg base 4 "check_counts" ["size", "names"] fd_check_counts) : DefOk P w K mg base 5 "many_in_order" ["size", "names"] fd_many_in_order := by
  exact .of F m (F.binds fun _ _ _ _ _ _ us hl => match us, hl with | [_, _], _ => rfl) sc_many_in_order len_many_in_order (fun cdv A outer s H E hr => by
    have hu := hr.units
    have nd := sc_many_in_order.nd
    exact (db_cons (ds_expr (de_callD c_check_counts (hr.mono (by decide)) [] (da_cons (de_var (pv 0)) (da_cons (de_var (pv 1)) da_nil))))
      (db_one (ds_ret false (de_if (dt_cmp op_leA sv_ord (de_var (pv 1)) (de_op op_addA (sv_add (o := false)) (de_var (pv 0)) de_int)) (de_ix hu (de_ix hu (de_callD c_order_table (hr.mono (by decide)) [] (da_cons (de_var (pv 0)) da_nil)) (de_var (pv 0))) (de_var (pv 1))) de_int))))) rd_many_in_order
abbrev s_law_pot : Stmt := topS 19
theorem sc_law_pot : FnScope ["_law_script", "_law_cells", "_law_greats", "_law_smalls", "_law_item"] ["_law_script"] (defScope s_law_pot) := ⟨rfl, rfl, rfl, by decide +kernel, rfl, by decide +kernel, by decide +kernel⟩
theorem ok_law_pot {f : Addr} {fd : FuncData} (F : Fun K "_law_pot" "_law_pot" s_law_pot f fd) (m : mg "_law_pot" = some (.ref f)) (z_int : mg "int" = none) (z_sum : mg "sum" = none) (z_abs : mg "abs" = none) (z_len : mg "len" = none) : DefOk P w K mg base 1 "_law_pot" ["_law_script"] fd_law_pot := by
  exact .of F m (F.binds fun _ _ _ _ _ _ us hl => match us, hl with | [_], _ => rfl) sc_law_pot len_law_pot (fun cdv A outer s H E hr => by
    have hu := hr.units
    have nd := sc_law_pot.nd
    exact (db_cons (ds_setLc (i := 1) false (own := [("_law_item", 4)]) rfl nd (di_seq (de_sl (o := false) (de_var (pv 0)) do_none (do_some de_int))) (blkOk_by (N := ["_law_script", "_law_cells", "_law_greats", "_law_smalls", "_law_item"]) (sc := defScope s_law_pot) (by decide +kernel)) (fun _ _ _ _ _ => (dc_name (i := 4) nd (by decide))) (fun _ _ _ _ _ => dp_nil) (fun _ _ _ _ _ => (de_callTy call_int1 sc_int z_int (da_cons (de_var (pv 4)) da_nil))))
      (db_cons (ds_setLc (i := 2) true (own := [("_law_item", 4)]) rfl nd (di_seq (de_var (pv 1))) (blkOk_by (N := ["_law_script", "_law_cells", "_law_greats", "_law_smalls", "_law_item"]) (sc := defScope s_law_pot) (by decide +kernel)) (fun _ _ _ _ _ => (dc_name (i := 4) nd (by decide))) (fun _ _ _ _ _ => (dp_one (dt_cmp op_geA sv_ord (de_callB call_abs sc_abs z_abs (da_cons (de_var (pv 4)) da_nil)) (de_op op_pow sv_pow de_int de_int)))) (fun _ _ _ _ _ => (de_callB call_abs sc_abs z_abs (da_cons (de_var (pv 4)) da_nil))))
      (db_cons (ds_set (i := 3) nd (de_op op_addA (sv_add (o := true)) (de_lc false (own := [("_law_item", 4)]) rfl nd (di_seq (de_var (pv 1))) (blkOk_by (N := ["_law_script", "_law_cells", "_law_greats", "_law_smalls", "_law_item"]) (sc := defScope s_law_pot) (by decide +kernel)) (fun _ _ _ _ _ => (dc_name (i := 4) nd (by decide))) (fun _ _ _ _ _ => (dp_one (dt_cmp op_ltA sv_ord (de_callB call_abs sc_abs z_abs (da_cons (de_var (pv 4)) da_nil)) (de_op op_pow sv_pow de_int de_int)))) (fun _ _ _ _ _ => (de_op op_mod sv_mod (de_callTy call_int1 sc_int z_int (da_cons (de_var (pv 4)) da_nil)) de_int))) (de_lst false (da_cons (de_op op_addA (sv_add (o := false)) (de_callB call_lenA sc_len z_len (da_cons (de_var (pv 1)) da_nil)) de_int) da_nil))))
      (db_one (ds_ret false (de_lst true (da_cons (de_var (pv 2)) (da_cons (de_var (pv 3)) (da_cons de_int (da_cons (de_op op_mod sv_mod (de_callTy call_int1 sc_int z_int (da_cons (de_callB (cr_sum rfl) sc_sum z_sum (da_cons (de_var (pv 3)) da_nil)) da_nil)) de_int) da_nil))))))))))) rd_law_pot
abbrev s_law_draw : Stmt := topS 20
theorem sc_law_draw : FnScope ["_law_pot_here", "_law_limit", "_law_turn", "_law_seed", "_law_number"] ["_law_pot_here", "_law_limit"] (defScope s_law_draw) := ⟨rfl, rfl, rfl, by decide +kernel, rfl, by decide +kernel, by decide +kernel⟩
theorem ok_law_draw {f : Addr} {fd : FuncData} (F : Fun K "_law_draw" "_law_draw" s_law_draw f fd) (m : mg "_law_draw" = some (.ref f)) (z_int : mg "int" = none) (z_len : mg "len" = none) : DefOk P w K mg base 1 "_law_draw" ["_law_pot_here", "_law_limit"] fd_law_draw := by
  exact .of F m (F.binds fun _ _ _ _ _ _ us hl => match us, hl with | [_, _], _ => rfl) sc_law_draw len_law_draw (fun cdv A outer s H E hr => by
    have hu := hr.units
    have nd := sc_law_draw.nd
    exact (db_cons (ds_set (i := 2) nd (de_ix hu (de_var (pv 0)) de_int))
      (db_cons (ds_setIx hu (de_op op_addA (sv_add (o := false)) (de_var (pv 2)) de_int) (de_var (pv 0)) de_int)
      (db_cons (ds_if (dt_cmp op_gtA sv_ord (de_callB call_lenA sc_len z_len (da_cons (de_ix hu (de_var (pv 0)) de_int) da_nil)) de_int) (db_cons (ds_set (i := 4) nd (de_ix hu (de_ix hu (de_var (pv 0)) de_int) de_int))
      (db_cons (ds_setIx hu (de_op op_fdivW sv_div (de_var (pv 4)) (de_var (pv 1))) (de_ix hu (de_var (pv 0)) de_int) de_int)
      (db_cons (ds_if (dt_cmp op_ltA sv_ord (de_var (pv 4)) (de_var (pv 1))) (db_one (ds_expr (de_mth PySem.F.slot_list_pop PySem.F.type_list_pop mt_popAt sm_popAt (de_ix hu (de_var (pv 0)) de_int) (da_cons de_int da_nil)))) db_nil)
      (db_one (ds_ret false (de_op op_mod sv_mod (de_callTy call_int1 sc_int z_int (da_cons (de_var (pv 4)) da_nil)) (de_var (pv 1)))))))) db_nil)
      (db_cons (ds_set (i := 3) nd (de_op op_addA (sv_add (o := false)) (de_op op_addA (sv_add (o := false)) (de_op op_mulA (sv_mul (o := false)) (de_ix hu (de_ix hu (de_var (pv 0)) de_int) (de_op op_mod sv_mod (de_callTy call_int1 sc_int z_int (da_cons (de_var (pv 2)) da_nil)) (de_callB call_lenA sc_len z_len (da_cons (de_ix hu (de_var (pv 0)) de_int) da_nil)))) de_int) (de_op op_mulA (sv_mul (o := false)) de_int (de_var (pv 2)))) (de_op op_mulA (sv_mul (o := false)) (de_ix hu (de_var (pv 0)) de_int) de_int)))
      (db_cons (ds_set (i := 4) nd (de_op op_mod sv_mod (de_callTy call_int1 sc_int z_int (da_cons (de_op op_addA (sv_add (o := false)) (de_op op_mulA (sv_mul (o := false)) (de_var (pv 3)) de_int) de_int) da_nil)) de_int))
      (db_cons (ds_set (i := 4) nd (de_op op_mod sv_mod (de_callTy call_int1 sc_int z_int (da_cons (de_op op_mulA (sv_mul (o := false)) (de_var (pv 4)) (de_op op_addA (sv_add (o := false)) (de_op op_fdivW sv_div (de_var (pv 4)) de_int) de_int)) da_nil)) de_int))
      (db_cons (ds_set (i := 4) nd (de_op op_mod sv_mod (de_callTy call_int1 sc_int z_int (da_cons (de_op op_addA (sv_add (o := false)) (de_op op_mulA (sv_mul (o := false)) (de_var (pv 4)) (de_op op_addA (sv_add (o := false)) (de_op op_fdivW sv_div (de_var (pv 4)) de_int) de_int)) (de_var (pv 2))) da_nil)) de_int))
      (db_one (ds_ret false (de_op op_mod sv_mod (de_callTy call_int1 sc_int z_int (da_cons (de_op op_fdivW sv_div (de_var (pv 4)) de_int) da_nil)) (de_var (pv 1))))))))))))) rd_law_draw
abbrev s_law_is_number : Stmt := topS 22
theorem sc_law_is_number : FnScope ["_law_thing"] ["_law_thing"] (defScope s_law_is_number) := ⟨rfl, rfl, rfl, by decide +kernel, rfl, by decide +kernel, by decide +kernel⟩
theorem ok_law_is_number {f : Addr} {fd : FuncData} (F : Fun K "_law_is_number" "_law_is_number" s_law_is_number f fd) (m : mg "_law_is_number" = some (.ref f)) (z_isinstance : mg "isinstance" = none) (z_int : mg "int" = none) (z_bool : mg "bool" = none) : DefOk P w K mg base 1 "_law_is_number" ["_law_thing"] fd_law_is_number := by
  exact .of F m (F.binds fun _ _ _ _ _ _ us hl => match us, hl with | [_], _ => rfl) sc_law_is_number len_law_is_number (fun cdv A outer s H E hr => by
    have hu := hr.units
    have nd := sc_law_is_number.nd
    exact (db_one (ds_ret false (de_and (de_callB call_isi sc_isi z_isinstance (da_cons (de_var (pv 0)) (da_cons (de_bltn (v := .ty "int") (u := .type "int") rfl z_int (by decide +kernel) rfl (fun _ _ => .ty _)) da_nil))) (de_one (de_not (de_callB call_isi sc_isi z_isinstance (da_cons (de_var (pv 0)) (da_cons (de_bltn (v := .ty "bool") (u := .type "bool") rfl z_bool (by decide +kernel) rfl (fun _ _ => .ty _)) da_nil))))))))) rd_law_is_number
abbrev s_law_choose : Stmt := topS 23
theorem sc_law_choose : FnScope ["_law_most", "_law_rows", "_law_turn", "_law_row", "_law_at"] ["_law_most"] (defScope s_law_choose) := ⟨rfl, rfl, rfl, by decide +kernel, rfl, by decide +kernel, by decide +kernel⟩
theorem ok_law_choose {f : Addr} {fd : FuncData} (F : Fun K "_law_choose" "_law_choose" s_law_choose f fd) (m : mg "_law_choose" = some (.ref f)) (z_range : mg "range" = none) : DefOk P w K mg base 1 "_law_choose" ["_law_most"] fd_law_choose := by
  exact .of F m (F.binds fun _ _ _ _ _ _ us hl => match us, hl with | [_], _ => rfl) sc_law_choose len_law_choose (fun cdv A outer s H E hr => by
    have hu := hr.units
    have nd := sc_law_choose.nd
    exact (db_cons (ds_set (i := 1) nd (de_lst true (da_cons (de_lst false (da_cons de_int da_nil)) da_nil)))
      (db_cons (ds_for PassesOwn.never rfl (di_range1 z_range (da_cons (de_var (pv 0)) da_nil)) (dg_name (i := 2) nd) (db_cons (ds_set (i := 3) nd (de_ix hu (de_var (pv 1)) (de_un un_neg sv_neg de_int)))
      (db_one (ds_expr (de_app (de_var (pv 1)) (de_op op_addA (sv_add (o := false)) (de_op op_addA (sv_add (o := false)) (de_lst false (da_cons de_int da_nil)) (de_lc false (own := [("_law_at", 4)]) rfl nd (di_range1 z_range (da_cons (de_var (pv 2)) da_nil)) (blkOk_by (N := ["_law_most", "_law_rows", "_law_turn", "_law_row", "_law_at"]) (sc := defScope s_law_choose) (by decide +kernel)) (fun _ _ _ _ _ => (dc_name (i := 4) nd (by decide))) (fun _ _ _ _ _ => dp_nil) (fun _ _ _ _ _ => (de_op op_addA (sv_add (o := false)) (de_ix hu (de_var (pv 3)) (de_var (pv 4))) (de_ix hu (de_var (pv 3)) (de_op op_addA (sv_add (o := false)) (de_var (pv 4)) de_int)))))) (de_lst false (da_cons de_int da_nil))))))))
      (db_one (ds_ret true (de_var (pv 1))))))) rd_law_choose
abbrev s_law_gives : Stmt := topS 24
theorem sc_law_gives : FnScope ["_law_heads", "_law_rows", "_law_ways", "_law_size", "_law_names", "_law_found", "_law_first", "_law_few"] ["_law_heads", "_law_rows", "_law_ways", "_law_size", "_law_names"] (defScope s_law_gives) := ⟨rfl, rfl, rfl, by decide +kernel, rfl, by decide +kernel, by decide +kernel⟩
theorem ok_law_gives {f : Addr} {fd : FuncData} (F : Fun K "_law_gives" "_law_gives" s_law_gives f fd) (m : mg "_law_gives" = some (.ref f)) (z_range : mg "range" = none) (z_min : mg "min" = none) (z_max : mg "max" = none) : DefOk P w K mg base 1 "_law_gives" ["_law_heads", "_law_rows", "_law_ways", "_law_size", "_law_names"] fd_law_gives := by
  exact .of F m (F.binds fun _ _ _ _ _ _ us hl => match us, hl with | [_, _, _, _, _], _ => rfl) sc_law_gives len_law_gives (fun cdv A outer s H E hr => by
    have hu := hr.units
    have nd := sc_law_gives.nd
    exact (db_cons (ds_set (i := 5) nd de_int)
      (db_cons (ds_for PassesOwn.never rfl (di_range1 z_range (da_cons (de_var (pv 3)) da_nil)) (dg_name (i := 6) nd) (db_one (ds_for PassesOwn.never rfl (di_range2 z_range (da_cons (de_callB (call_max2 rfl) sc_max2 z_max (da_cons de_int (da_cons (de_op op_addA (sv_add (o := false)) (de_op op_sub sv_sub (de_var (pv 4)) (de_var (pv 3))) (de_var (pv 6))) da_nil))) (da_cons (de_op op_addA (sv_add (o := false)) (de_callB (call_min2 rfl) sc_min2 z_min (da_cons (de_var (pv 4)) (da_cons (de_op op_addA (sv_add (o := false)) (de_var (pv 6)) de_int) da_nil))) de_int) da_nil))) (dg_name (i := 7) nd) (db_one (ds_set (i := 5) nd (de_op op_addA (sv_add (o := false)) (de_var (pv 5)) (de_op op_mulA (sv_mul (o := false)) (de_op op_mulA (sv_mul (o := false)) (de_ix hu (de_ix hu (de_var (pv 2)) (de_var (pv 4))) (de_var (pv 7))) (de_ix hu (de_ix hu (de_var (pv 0)) (de_var (pv 6))) (de_var (pv 7)))) (de_ix hu (de_ix hu (de_var (pv 1)) (de_op op_sub sv_sub (de_op op_sub sv_sub (de_var (pv 3)) de_int) (de_var (pv 6)))) (de_op op_sub sv_sub (de_var (pv 4)) (de_var (pv 7)))))))))))
      (db_one (ds_ret false (de_var (pv 5))))))) rd_law_gives
abbrev s_law_table : Stmt := topS 25
theorem sc_law_table : FnScope ["_law_most", "_law_which", "_law_ways", "_law_heads", "_law_rows", "_law_size", "_law_head", "_law_row", "_law_names", "_law_gives_here"] ["_law_most", "_law_which", "_law_ways"] (defScope s_law_table) := ⟨rfl, rfl, rfl, by decide +kernel, rfl, by decide +kernel, by decide +kernel⟩
theorem ok_law_table {f : Addr} {fd : FuncData} (F : Fun K "_law_table" "_law_table" s_law_table f fd) (m : mg "_law_table" = some (.ref f)) (c__law_gives : DefOk P w K mg base 1 "_law_gives" ["_law_heads", "_law_rows", "_law_ways", "_law_size", "_law_names"] fd_law_gives) (z_range : mg "range" = none) (z_int : mg "int" = none) : DefOk P w K mg base 2 "_law_table" ["_law_most", "_law_which", "_law_ways"] fd_law_table := by
  exact .of F m (F.binds fun _ _ _ _ _ _ us hl => match us, hl with | [_, _, _], _ => rfl) sc_law_table len_law_table (fun cdv A outer s H E hr => by
    have hu := hr.units
    have nd := sc_law_table.nd
    exact (db_cons (ds_set (i := 3) nd (de_lst true da_nil))
      (db_cons (ds_set (i := 4) nd (de_lst true da_nil))
      (db_cons (ds_for PassesOwn.never rfl (di_range1 z_range (da_cons (de_op op_addA (sv_add (o := false)) (de_var (pv 0)) de_int) da_nil)) (dg_name (i := 5) nd) (db_cons (ds_set (i := 6) nd (de_op op_mulA (sv_mul (o := true)) (de_lst false (da_cons de_int da_nil)) (de_op op_addA (sv_add (o := false)) (de_var (pv 5)) de_int)))
      (db_cons (ds_set (i := 7) nd (de_op op_mulA (sv_mul (o := true)) (de_lst false (da_cons de_int da_nil)) (de_op op_addA (sv_add (o := false)) (de_var (pv 5)) de_int)))
      (db_cons (ds_for PassesOwn.never rfl (di_range3 z_range (da_cons (de_op op_addA (sv_add (o := false)) (de_var (pv 5)) de_int) (da_cons (de_un un_neg sv_neg de_int) (da_cons (de_un un_neg sv_neg de_int) da_nil)))) (dg_name (i := 8) nd) (db_cons (ds_set (i := 9) nd (de_callD c__law_gives (hr.mono (by decide)) [0, 1] (da_cons (de_if (dt_cmp (op_eqA hu) sv_eq (de_var (pv 1)) de_int) (de_var (pv 3)) (de_var (pv 4))) (da_cons (de_var (pv 4)) (da_cons (de_var (pv 2)) (da_cons (de_var (pv 5)) (da_cons (de_var (pv 8)) da_nil)))))))
      (db_cons (ds_setIx hu (de_op op_addA (sv_add (o := false)) (de_var (pv 9)) (de_callTy call_int1 sc_int z_int (da_cons (de_and (de_cmp (op_eqA hu) sv_eq (de_var (pv 5)) de_int) (de_one (de_cmp (op_eqA hu) sv_eq (de_var (pv 8)) de_int))) da_nil))) (de_var (pv 6)) (de_var (pv 8)))
      (db_one (ds_setIx hu (de_op op_addA (sv_add (o := false)) (de_ix hu (de_var (pv 6)) (de_var (pv 8))) (de_ix hu (de_var (pv 7)) (de_op op_addA (sv_add (o := false)) (de_var (pv 8)) de_int))) (de_var (pv 7)) (de_var (pv 8)))))))
      (db_frz 6 (db_cons (ds_expr (de_app (de_var (pv 3)) (de_var (pv 6))))
      (db_frz 7 (db_one (ds_expr (de_app (de_var (pv 4)) (de_var (pv 7))))))))))))
      (db_one (ds_ret true (de_var (pv 4)))))))) rd_law_table
abbrev s_law : Stmt := topS 26
theorem sc_law : FnScope ["_law_script", "_law_pot_here", "_law_most", "_law_ways", "_law_once", "_law_which", "_law_due", "_law_names", "_law_told"] ["_law_script"] (defScope s_law) := ⟨rfl, rfl, rfl, by decide +kernel, rfl, by decide +kernel, by decide +kernel⟩
theorem ok_law {f : Addr} {fd : FuncData} (F : Fun K "law" "law" s_law f fd) (c__law_is_number : DefOk P w K mg base 1 "_law_is_number" ["_law_thing"] fd_law_is_number) (c_many : DefOk P w K mg base 5 "many" ["size", "names"] fd_many) (c_many_rests : DefOk P w K mg base 5 "many_rests" ["size", "names"] fd_many_rests) (c_many_in_order : DefOk P w K mg base 5 "many_in_order" ["size", "names"] fd_many_in_order) (c__law_table : DefOk P w K mg base 2 "_law_table" ["_law_most", "_law_which", "_law_ways"] fd_law_table) (c__law_choose : DefOk P w K mg base 1 "_law_choose" ["_law_most"] fd_law_choose) (c__law_draw : DefOk P w K mg base 1 "_law_draw" ["_law_pot_here", "_law_limit"] fd_law_draw) (c__law_pot : DefOk P w K mg base 1 "_law_pot" ["_law_script"] fd_law_pot) (z_range : mg "range" = none) : FnOk P w K mg base CX0 6 f fd ["_law_script"] (spLaw K) := by
  exact law_ok (fn_d F sc_law fdLaw_len (fun cdv A outer s H E hr => by
    have hu := hr.units
    have nd := sc_law.nd
    exact (db_cons (ds_set (i := 1) nd (de_callD c__law_pot (hr.mono (by decide)) [] (da_cons (de_var (pv 0)) da_nil)))
      (db_cons (ds_set (i := 2) nd (de_if (dt_cmp (op_eqA hu) sv_eq (de_callD c__law_draw (hr.mono (by decide)) [0, 1, 2] (da_cons (de_var (pv 1)) (da_cons de_int da_nil))) de_int) (de_callD c__law_draw (hr.mono (by decide)) [0, 1, 2] (da_cons (de_var (pv 1)) (da_cons de_int da_nil))) (de_callD c__law_draw (hr.mono (by decide)) [0, 1, 2] (da_cons (de_var (pv 1)) (da_cons de_int da_nil)))))
      (db_cons (ds_set (i := 3) nd (de_callD c__law_choose (hr.mono (by decide)) [] (da_cons (de_op op_addA (sv_add (o := false)) (de_var (pv 2)) de_int) da_nil)))
      (db_cons (ds_setLc (i := 4) false (own := [("_law_names", 7)]) rfl nd (di_range1 z_range (da_cons (de_op op_addA (sv_add (o := false)) (de_var (pv 2)) de_int) da_nil)) (blkOk_by (N := ["_law_script", "_law_pot_here", "_law_most", "_law_ways", "_law_once", "_law_which", "_law_due", "_law_names", "_law_told"]) (sc := defScope s_law) (by decide +kernel)) (fun _ _ _ _ _ => (dc_name (i := 7) nd (by decide))) (fun _ _ _ _ _ => dp_nil) (fun _ _ _ _ _ => (de_op op_mulA (sv_mul (o := false)) (de_lst false (da_cons de_int da_nil)) (de_op op_addA (sv_add (o := false)) (de_var (pv 7)) de_int))))
      (db_cons (ds_for PassesOwn.never rfl (di_range1 z_range (da_cons de_int da_nil)) (dg_name (i := 5) nd) (db_cons (ds_set (i := 6) nd (de_ix hu (de_callD c__law_table (hr.mono (by decide)) [] (da_cons (de_var (pv 2)) (da_cons (de_var (pv 5)) (da_cons (de_if (dt_cmp (op_eqA hu) sv_eq (de_var (pv 5)) de_int) (de_var (pv 4)) (de_var (pv 3))) da_nil)))) (de_var (pv 2))))
      (db_one (ds_for PassesOwn.never rfl (di_range1 z_range (da_cons (de_op op_addA (sv_add (o := false)) (de_var (pv 2)) de_int) da_nil)) (dg_name (i := 7) nd) (db_cons (ds_set (i := 8) nd (de_pick3 c_many c_many_rests c_many_in_order hu (hr.mono (by decide)) (de_var (pv 5)) [] (da_cons (de_var (pv 2)) (da_cons (de_var (pv 7)) da_nil))))
      (db_one (ds_if (dw_or (dt_not (dt_tru (de_callD c__law_is_number (hr.mono (by decide)) [] (da_cons (de_var (pv 8)) da_nil)))) (dw_or1 (dt_cmp (op_neA hu) sv_ne (de_var (pv 8)) (de_ix hu (de_var (pv 6)) (de_var (pv 7)))))).dt (db_one (ds_ret false de_bl)) db_nil)))))))
      (db_one (ds_ret false de_bl)))))))) rd_law)
end
theorem all_mk {l : PySem.W.OpenLaw} {w : World} {K : PySem.W.Frag} {h : Heap} {mg : Str → Option Value} {fa : Addr} (X : K.In h) (G : h.Ns mainGlobals mg) (hfa : mg "law" = some (.ref fa))
    {f0 f1 f2 f3 f4 f5 f6 f7 f8 f9 f10 f11 f12 f13 f14 f15 f16 f17 f18 : Addr} {od0 an0 od1 an1 od2 an2 od3 an3 od4 an4 od5 an5 od6 an6 od7 an7 od8 an8 od9 an9 od10 an10 od11 an11 od12 an12 od13 an13 od14 an14 od15 an15 od16 an16 od17 an17 od18 an18 : Option Addr} {sl0 sl1 sl2 sl3 sl4 sl5 sl6 sl7 sl8 sl9 sl10 sl11 sl12 sl13 sl14 sl15 sl16 sl17 sl18 : Array (Option Value)} {oc0 kV0 dc0 pm0 cd0 ct0 oc1 kV1 dc1 pm1 cd1 ct1 oc2 kV2 dc2 pm2 cd2 ct2 oc3 kV3 dc3 pm3 cd3 ct3 oc4 kV4 dc4 pm4 cd4 ct4 oc5 kV5 dc5 pm5 cd5 ct5 oc6 kV6 dc6 pm6 cd6 ct6 oc7 kV7 dc7 pm7 cd7 ct7 oc8 kV8 dc8 pm8 cd8 ct8 oc9 kV9 dc9 pm9 cd9 ct9 oc10 kV10 dc10 pm10 cd10 ct10 oc11 kV11 dc11 pm11 cd11 ct11 oc12 kV12 dc12 pm12 cd12 ct12 oc13 kV13 dc13 pm13 cd13 ct13 oc14 kV14 dc14 pm14 cd14 ct14 oc15 kV15 dc15 pm15 cd15 ct15 oc16 kV16 dc16 pm16 cd16 ct16 oc17 kV17 dc17 pm17 cd17 ct17 oc18 kV18 dc18 pm18 cd18 ct18 : Value}
    {t_MOST : Tok}
    (a0 : PySem.W.nsIn K mainGlobals "is_integer" = some (some (.ref f0))) (l0 : K.lookup f0 = some ⟨oc0, od0, .func (PySem.W.fnOf "is_integer" "is_integer" (defArgs s_is_integer) (defBody s_is_integer) (defScope s_is_integer) .none kV0 dc0 pm0 an0 cd0 ct0), sl0⟩) (c0 : PySem.W.codeIn K cd0 "is_integer" = true) (k0 : PySem.W.keepIn K (.ref f0) = true)
    (a1 : PySem.W.nsIn K mainGlobals "is_within" = some (some (.ref f1))) (l1 : K.lookup f1 = some ⟨oc1, od1, .func (PySem.W.fnOf "is_within" "is_within" (defArgs s_is_within) (defBody s_is_within) (defScope s_is_within) .none kV1 dc1 pm1 an1 cd1 ct1), sl1⟩) (c1 : PySem.W.codeIn K cd1 "is_within" = true) (k1 : PySem.W.keepIn K (.ref f1) = true)
    (a2 : PySem.W.nsIn K mainGlobals "check_number" = some (some (.ref f2))) (l2 : K.lookup f2 = some ⟨oc2, od2, .func (PySem.W.fnOf "check_number" "check_number" (defArgs s_check_number) (defBody s_check_number) (defScope s_check_number) .none kV2 dc2 pm2 an2 cd2 ct2), sl2⟩) (c2 : PySem.W.codeIn K cd2 "check_number" = true) (k2 : PySem.W.keepIn K (.ref f2) = true)
    (a3 : PySem.W.nsIn K mainGlobals "factorial_of" = some (some (.ref f3))) (l3 : K.lookup f3 = some ⟨oc3, od3, .func (PySem.W.fnOf "factorial_of" "factorial_of" (defArgs s_factorial_of) (defBody s_factorial_of) (defScope s_factorial_of) .none kV3 dc3 pm3 an3 cd3 ct3), sl3⟩) (c3 : PySem.W.codeIn K cd3 "factorial_of" = true) (k3 : PySem.W.keepIn K (.ref f3) = true)
    (a4 : PySem.W.nsIn K mainGlobals "pairs" = some (some (.ref f4))) (l4 : K.lookup f4 = some ⟨oc4, od4, .func (PySem.W.fnOf "pairs" "pairs" (defArgs s_pairs) (defBody s_pairs) (defScope s_pairs) .none kV4 dc4 pm4 an4 cd4 ct4), sl4⟩) (c4 : PySem.W.codeIn K cd4 "pairs" = true) (k4 : PySem.W.keepIn K (.ref f4) = true)
    (a5 : PySem.W.nsIn K mainGlobals "table" = some (some (.ref f5))) (l5 : K.lookup f5 = some ⟨oc5, od5, .func (PySem.W.fnOf "table" "table" (defArgs s_table) (defBody s_table) (defScope s_table) .none kV5 dc5 pm5 an5 cd5 ct5), sl5⟩) (c5 : PySem.W.codeIn K cd5 "table" = true) (k5 : PySem.W.keepIn K (.ref f5) = true)
    (a6 : PySem.W.nsIn K mainGlobals "rest_table" = some (some (.ref f6))) (l6 : K.lookup f6 = some ⟨oc6, od6, .func (PySem.W.fnOf "rest_table" "rest_table" (defArgs s_rest_table) (defBody s_rest_table) (defScope s_rest_table) .none kV6 dc6 pm6 an6 cd6 ct6), sl6⟩) (c6 : PySem.W.codeIn K cd6 "rest_table" = true) (k6 : PySem.W.keepIn K (.ref f6) = true)
    (a7 : PySem.W.nsIn K mainGlobals "order_table" = some (some (.ref f7))) (l7 : K.lookup f7 = some ⟨oc7, od7, .func (PySem.W.fnOf "order_table" "order_table" (defArgs s_order_table) (defBody s_order_table) (defScope s_order_table) .none kV7 dc7 pm7 an7 cd7 ct7), sl7⟩) (c7 : PySem.W.codeIn K cd7 "order_table" = true) (k7 : PySem.W.keepIn K (.ref f7) = true)
    (a8 : PySem.W.nsIn K mainGlobals "check_counts" = some (some (.ref f8))) (l8 : K.lookup f8 = some ⟨oc8, od8, .func (PySem.W.fnOf "check_counts" "check_counts" (defArgs s_check_counts) (defBody s_check_counts) (defScope s_check_counts) .none kV8 dc8 pm8 an8 cd8 ct8), sl8⟩) (c8 : PySem.W.codeIn K cd8 "check_counts" = true) (k8 : PySem.W.keepIn K (.ref f8) = true)
    (a9 : PySem.W.nsIn K mainGlobals "many" = some (some (.ref f9))) (l9 : K.lookup f9 = some ⟨oc9, od9, .func (PySem.W.fnOf "many" "many" (defArgs s_many) (defBody s_many) (defScope s_many) .none kV9 dc9 pm9 an9 cd9 ct9), sl9⟩) (c9 : PySem.W.codeIn K cd9 "many" = true) (k9 : PySem.W.keepIn K (.ref f9) = true)
    (a10 : PySem.W.nsIn K mainGlobals "many_rests" = some (some (.ref f10))) (l10 : K.lookup f10 = some ⟨oc10, od10, .func (PySem.W.fnOf "many_rests" "many_rests" (defArgs s_many_rests) (defBody s_many_rests) (defScope s_many_rests) .none kV10 dc10 pm10 an10 cd10 ct10), sl10⟩) (c10 : PySem.W.codeIn K cd10 "many_rests" = true) (k10 : PySem.W.keepIn K (.ref f10) = true)
    (a11 : PySem.W.nsIn K mainGlobals "many_in_order" = some (some (.ref f11))) (l11 : K.lookup f11 = some ⟨oc11, od11, .func (PySem.W.fnOf "many_in_order" "many_in_order" (defArgs s_many_in_order) (defBody s_many_in_order) (defScope s_many_in_order) .none kV11 dc11 pm11 an11 cd11 ct11), sl11⟩) (c11 : PySem.W.codeIn K cd11 "many_in_order" = true) (k11 : PySem.W.keepIn K (.ref f11) = true)
    (a12 : PySem.W.nsIn K mainGlobals "_law_pot" = some (some (.ref f12))) (l12 : K.lookup f12 = some ⟨oc12, od12, .func (PySem.W.fnOf "_law_pot" "_law_pot" (defArgs s_law_pot) (defBody s_law_pot) (defScope s_law_pot) .none kV12 dc12 pm12 an12 cd12 ct12), sl12⟩) (c12 : PySem.W.codeIn K cd12 "_law_pot" = true) (k12 : PySem.W.keepIn K (.ref f12) = true)
    (a13 : PySem.W.nsIn K mainGlobals "_law_draw" = some (some (.ref f13))) (l13 : K.lookup f13 = some ⟨oc13, od13, .func (PySem.W.fnOf "_law_draw" "_law_draw" (defArgs s_law_draw) (defBody s_law_draw) (defScope s_law_draw) .none kV13 dc13 pm13 an13 cd13 ct13), sl13⟩) (c13 : PySem.W.codeIn K cd13 "_law_draw" = true) (k13 : PySem.W.keepIn K (.ref f13) = true)
    (a14 : PySem.W.nsIn K mainGlobals "_law_is_number" = some (some (.ref f14))) (l14 : K.lookup f14 = some ⟨oc14, od14, .func (PySem.W.fnOf "_law_is_number" "_law_is_number" (defArgs s_law_is_number) (defBody s_law_is_number) (defScope s_law_is_number) .none kV14 dc14 pm14 an14 cd14 ct14), sl14⟩) (c14 : PySem.W.codeIn K cd14 "_law_is_number" = true) (k14 : PySem.W.keepIn K (.ref f14) = true)
    (a15 : PySem.W.nsIn K mainGlobals "_law_choose" = some (some (.ref f15))) (l15 : K.lookup f15 = some ⟨oc15, od15, .func (PySem.W.fnOf "_law_choose" "_law_choose" (defArgs s_law_choose) (defBody s_law_choose) (defScope s_law_choose) .none kV15 dc15 pm15 an15 cd15 ct15), sl15⟩) (c15 : PySem.W.codeIn K cd15 "_law_choose" = true) (k15 : PySem.W.keepIn K (.ref f15) = true)
    (a16 : PySem.W.nsIn K mainGlobals "_law_gives" = some (some (.ref f16))) (l16 : K.lookup f16 = some ⟨oc16, od16, .func (PySem.W.fnOf "_law_gives" "_law_gives" (defArgs s_law_gives) (defBody s_law_gives) (defScope s_law_gives) .none kV16 dc16 pm16 an16 cd16 ct16), sl16⟩) (c16 : PySem.W.codeIn K cd16 "_law_gives" = true) (k16 : PySem.W.keepIn K (.ref f16) = true)
    (a17 : PySem.W.nsIn K mainGlobals "_law_table" = some (some (.ref f17))) (l17 : K.lookup f17 = some ⟨oc17, od17, .func (PySem.W.fnOf "_law_table" "_law_table" (defArgs s_law_table) (defBody s_law_table) (defScope s_law_table) .none kV17 dc17 pm17 an17 cd17 ct17), sl17⟩) (c17 : PySem.W.codeIn K cd17 "_law_table" = true) (k17 : PySem.W.keepIn K (.ref f17) = true)
    (a18 : PySem.W.nsIn K mainGlobals "law" = some (some (.ref f18))) (l18 : K.lookup f18 = some ⟨oc18, od18, .func (PySem.W.fnOf "law" "law" (defArgs s_law) (defBody s_law) (defScope s_law) .none kV18 dc18 pm18 an18 cd18 ct18), sl18⟩) (c18 : PySem.W.codeIn K cd18 "law" = true) (k18 : PySem.W.keepIn K (.ref f18) = true)
    (g_MOST : PySem.W.nsIn K mainGlobals "MOST" = some (some (.int 40 t_MOST)))
    (z_isinstance : PySem.W.nsIn K mainGlobals "isinstance" = some none)
    (z_int : PySem.W.nsIn K mainGlobals "int" = some none)
    (z_bool : PySem.W.nsIn K mainGlobals "bool" = some none)
    (z_range : PySem.W.nsIn K mainGlobals "range" = some none)
    (z_sum : PySem.W.nsIn K mainGlobals "sum" = some none)
    (z_min : PySem.W.nsIn K mainGlobals "min" = some none)
    (z_max : PySem.W.nsIn K mainGlobals "max" = some none)
    (z_abs : PySem.W.nsIn K mainGlobals "abs" = some none)
    (z_len : PySem.W.nsIn K mainGlobals "len" = some none)
    : ∃ fd : FuncData, (∀ (s : Shared) (v : Value), BindsTo s fd ⟨[v], []⟩ [("_law_script", v)]) ∧ ∀ base : Heap, K.In base → base.Ns mainGlobals mg → FnOk l.prog w K mg base CX0 6 fa fd ["_law_script"] (spLaw K) := by
  have e := hfa.symm.trans (PySem.W.mg_of X G a18)
  cases e
  have y_isinstance : mg "isinstance" = none := PySem.W.mg_none_of X G z_isinstance
  have y_int : mg "int" = none := PySem.W.mg_none_of X G z_int
  have y_bool : mg "bool" = none := PySem.W.mg_none_of X G z_bool
  have y_range : mg "range" = none := PySem.W.mg_none_of X G z_range
  have y_sum : mg "sum" = none := PySem.W.mg_none_of X G z_sum
  have y_min : mg "min" = none := PySem.W.mg_none_of X G z_min
  have y_max : mg "max" = none := PySem.W.mg_none_of X G z_max
  have y_abs : mg "abs" = none := PySem.W.mg_none_of X G z_abs
  have y_len : mg "len" = none := PySem.W.mg_none_of X G z_len
  have h_MOST : ∃ t, mg "MOST" = some (.int 40 t) := ⟨_, PySem.W.mg_of X G g_MOST⟩
  have F0 := fun_mk (st := s_is_integer) l0 c0 k0
  have F1 := fun_mk (st := s_is_within) l1 c1 k1
  have F2 := fun_mk (st := s_check_number) l2 c2 k2
  have F3 := fun_mk (st := s_factorial_of) l3 c3 k3
  have F4 := fun_mk (st := s_pairs) l4 c4 k4
  have F5 := fun_mk (st := s_table) l5 c5 k5
  have F6 := fun_mk (st := s_rest_table) l6 c6 k6
  have F7 := fun_mk (st := s_order_table) l7 c7 k7
  have F8 := fun_mk (st := s_check_counts) l8 c8 k8
  have F9 := fun_mk (st := s_many) l9 c9 k9
  have F10 := fun_mk (st := s_many_rests) l10 c10 k10
  have F11 := fun_mk (st := s_many_in_order) l11 c11 k11
  have F12 := fun_mk (st := s_law_pot) l12 c12 k12
  have F13 := fun_mk (st := s_law_draw) l13 c13 k13
  have F14 := fun_mk (st := s_law_is_number) l14 c14 k14
  have F15 := fun_mk (st := s_law_choose) l15 c15 k15
  have F16 := fun_mk (st := s_law_gives) l16 c16 k16
  have F17 := fun_mk (st := s_law_table) l17 c17 k17
  have F18 := fun_mk (st := s_law) l18 c18 k18
  refine ⟨PySem.W.fnOf "law" "law" (defArgs s_law) (defBody s_law) (defScope s_law) .none kV18 dc18 pm18 an18 cd18 ct18, fun s v => .of_eq rfl, fun base _ _ => ?_⟩
  have C__law_is_number := ok_law_is_number (P := l.prog) (w := w) (base := base) F14 (PySem.W.mg_of X G a14) y_isinstance y_int y_bool
  have C_pairs := ok_pairs (P := l.prog) (w := w) (base := base) F4 (PySem.W.mg_of X G a4) y_range y_sum y_min y_max
  have C_table := ok_table (P := l.prog) (w := w) (base := base) F5 (PySem.W.mg_of X G a5) C_pairs y_range y_int
  have C_factorial_of := ok_factorial_of (P := l.prog) (w := w) (base := base) F3 (PySem.W.mg_of X G a3) y_range
  have C_is_integer := ok_is_integer (P := l.prog) (w := w) (base := base) F0 (PySem.W.mg_of X G a0) y_isinstance y_int y_bool
  have C_is_within := ok_is_within (P := l.prog) (w := w) (base := base) F1 (PySem.W.mg_of X G a1) C_is_integer
  have C_check_number := ok_check_number (P := l.prog) (w := w) (base := base) F2 (PySem.W.mg_of X G a2) C_is_within
  have C_check_counts := ok_check_counts (P := l.prog) (w := w) (base := base) F8 (PySem.W.mg_of X G a8) C_check_number h_MOST
  have C_many := ok_many (P := l.prog) (w := w) (base := base) F9 (PySem.W.mg_of X G a9) C_table C_factorial_of C_check_counts
  have C_rest_table := ok_rest_table (P := l.prog) (w := w) (base := base) F6 (PySem.W.mg_of X G a6) C_pairs y_range y_int
  have C_many_rests := ok_many_rests (P := l.prog) (w := w) (base := base) F10 (PySem.W.mg_of X G a10) C_rest_table C_factorial_of C_check_counts
  have C_order_table := ok_order_table (P := l.prog) (w := w) (base := base) F7 (PySem.W.mg_of X G a7) C_pairs y_range y_int
  have C_many_in_order := ok_many_in_order (P := l.prog) (w := w) (base := base) F11 (PySem.W.mg_of X G a11) C_order_table C_check_counts
  have C__law_gives := ok_law_gives (P := l.prog) (w := w) (base := base) F16 (PySem.W.mg_of X G a16) y_range y_min y_max
  have C__law_table := ok_law_table (P := l.prog) (w := w) (base := base) F17 (PySem.W.mg_of X G a17) C__law_gives y_range y_int
  have C__law_choose := ok_law_choose (P := l.prog) (w := w) (base := base) F15 (PySem.W.mg_of X G a15) y_range
  have C__law_draw := ok_law_draw (P := l.prog) (w := w) (base := base) F13 (PySem.W.mg_of X G a13) y_int y_len
  have C__law_pot := ok_law_pot (P := l.prog) (w := w) (base := base) F12 (PySem.W.mg_of X G a12) y_int y_sum y_abs y_len
  exact ok_law F18 C__law_is_number C_many C_many_rests C_many_in_order C__law_table C__law_choose C__law_draw C__law_pot y_range
theorem walk {l : PySem.W.OpenLaw} {q : Program} {loose : List Str} {XP : (Str → Option Value) → Heap → Prop} {YP : World → Heap → Prop} {d : DefRec} {K : Params → PySem.W.Frag} (hn : l.most = some 63) (hdf : d.params.defaults = [])
    (hY : ∀ (w : World) (h : Heap), YP w h → (K w.params).In h)
    (F : ∀ (w : World) (mg : Str → Option Value) (fa : Addr) (h : Heap), (K w.params).In h → h.Ns mainGlobals mg → mg d.name = some (.ref fa) →
      ∃ fd : FuncData, (∀ (s : Shared) (u : Value), BindsTo s fd ⟨[u], []⟩ [("_law_script", u)]) ∧ ∀ base : Heap, (K w.params).In base → base.Ns mainGlobals mg → FnOk l.prog w (K w.params) mg base CX0 6 fa fd ["_law_script"] (spLaw (K w.params))) :
    PySem.W.WalkO q loose XP YP l.row.toRowW d [] (fun f vs => PySem.call f vs) :=
  L2.walk_of (n := 63) (k := 6) (x := "_law_script") (CX := fun _ => CX0) (sp := fun w => spLaw (K w.params)) hn (by decide) hdf ⟨rfl, by decide, by decide⟩ hY F (fun _ _ a ns hl _ hS => ⟨a, ns, rfl, hS, hl, fun _ => rfl⟩) fun _ _ _ _ _ z => z
end Once
open PySem PySem.W PyProof.Rows
set_option maxRecDepth 100000 in
set_option maxHeartbeats 0 in
theorem PySem.Challenge.cw_oncekinds_k51_counts_by_a_table_holds : PySem.Challenge.rw_oncekinds_k51_counts_by_a_table.Holds := by
  w_on; o_law; k_head; (case hw => w_witness2)
  k_fill
  refine Once.walk (l := PySem.Challenge.rw_oncekinds_k51_counts_by_a_table) rfl rfl (fun w h Y => PySem.W.kIn_of Y) ?F
  case F =>
    intro w mg fa h KX G hmg
    refine' Once.all_mk KX G hmg ?a0 ?l0 ?c0 ?k0 ?a1 ?l1 ?c1 ?k1 ?a2 ?l2 ?c2 ?k2 ?a3 ?l3 ?c3 ?k3 ?a4 ?l4 ?c4 ?k4 ?a5 ?l5 ?c5 ?k5 ?a6 ?l6 ?c6 ?k6 ?a7 ?l7 ?c7 ?k7 ?a8 ?l8 ?c8 ?k8 ?a9 ?l9 ?c9 ?k9 ?a10 ?l10 ?c10 ?k10 ?a11 ?l11 ?c11 ?k11 ?a12 ?l12 ?c12 ?k12 ?a13 ?l13 ?c13 ?k13 ?a14 ?l14 ?c14 ?k14 ?a15 ?l15 ?c15 ?k15 ?a16 ?l16 ?c16 ?k16 ?a17 ?l17 ?c17 ?k17 ?a18 ?l18 ?c18 ?k18 ?g_MOST ?z_isinstance ?z_int ?z_bool ?z_range ?z_sum ?z_min ?z_max ?z_abs ?z_len
    (case a0 => k_is)
    (case l0 => k_is)
    (case c0 => k_is)
    (case k0 => k_is)
    (case a1 => k_is)
    (case l1 => k_is)
    (case c1 => k_is)
    (case k1 => k_is)
    (case a2 => k_is)
    (case l2 => k_is)
    (case c2 => k_is)
    (case k2 => k_is)
    (case a3 => k_is)
    (case l3 => k_is)
    (case c3 => k_is)
    (case k3 => k_is)
    (case a4 => k_is)
    (case l4 => k_is)
    (case c4 => k_is)
    (case k4 => k_is)
    (case a5 => k_is)
    (case l5 => k_is)
    (case c5 => k_is)
    (case k5 => k_is)
    (case a6 => k_is)
    (case l6 => k_is)
    (case c6 => k_is)
    (case k6 => k_is)
    (case a7 => k_is)
    (case l7 => k_is)
    (case c7 => k_is)
    (case k7 => k_is)
    (case a8 => k_is)
    (case l8 => k_is)
    (case c8 => k_is)
    (case k8 => k_is)
    (case a9 => k_is)
    (case l9 => k_is)
    (case c9 => k_is)
    (case k9 => k_is)
    (case a10 => k_is)
    (case l10 => k_is)
    (case c10 => k_is)
    (case k10 => k_is)
    (case a11 => k_is)
    (case l11 => k_is)
    (case c11 => k_is)
    (case k11 => k_is)
    (case a12 => k_is)
    (case l12 => k_is)
    (case c12 => k_is)
    (case k12 => k_is)
    (case a13 => k_is)
    (case l13 => k_is)
    (case c13 => k_is)
    (case k13 => k_is)
    (case a14 => k_is)
    (case l14 => k_is)
    (case c14 => k_is)
    (case k14 => k_is)
    (case a15 => k_is)
    (case l15 => k_is)
    (case c15 => k_is)
    (case k15 => k_is)
    (case a16 => k_is)
    (case l16 => k_is)
    (case c16 => k_is)
    (case k16 => k_is)
    (case a17 => k_is)
    (case l17 => k_is)
    (case c17 => k_is)
    (case k17 => k_is)
    (case a18 => k_is)
    (case l18 => k_is)
    (case c18 => k_is)
    (case k18 => k_is)
    (case g_MOST => k_is)
    (case z_isinstance => k_is)
    (case z_int => k_is)
    (case z_bool => k_is)
    (case z_range => k_is)
    (case z_sum => k_is)
    (case z_min => k_is)
    (case z_max => k_is)
    (case z_abs => k_is)
    (case z_len => k_is)
