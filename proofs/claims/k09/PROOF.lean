import PyProof.Rows.All
import Wide.All
import OpenK.AllK
import Wide.FinOn
import HandS.ForMost
import HandS.ForExc
import HandS.Wide
import HandS.IsInst
import HandS.TupAny
import HandS.Star
import HandS.Iter
import KE.GoesMore
import HandS.OwnEq
import HandS.DictComp
import HandS.SetKeys
import HandS.Conv
import HandS.Finally
import PySem.Challenge.RW_oncekinds_k09_whole_parts_put_back
set_option Elab.async false
set_option linter.all false
set_option maxRecDepth 100000
set_option maxHeartbeats 4000000
/-! OD1: deep data D over the hand layer: what stands for what, and how a step keeps it. -/
namespace OD
open PySem PySem.Spec L2

/-- data: what a value is, all the way down; ref a: an object that is known by its address alone (an owned one, a def, a class) -/
inductive D where
  | non | bl (b : Bool) | int (i : Int) | str (x : Str) | ref (a : Addr) | ty (n : String) | scr (ns : List Int)
  | tup (xs : List D) | lst (xs : List D) | dic (kvs : List (Key × D)) | obj (C : Addr) (fs : List (Str × D)) | cls (a : Addr)

abbrev Mark := Addr → Prop

def TupAt (K : PySem.W.Frag) (S : Mark) (H : Hp) (a : Addr) (vs : List V) : Prop :=
  (¬ S a ∧ H a = some (.tup vs)) ∨
    ∃ (o : Obj) (its : Array Value) (n : Nat), K.lookup a = some o ∧ o.cls = .type "tuple" ∧ o.data = .seq its n ∧ its.size ≤ sizeLine ∧ Vals vs its.toList
theorem TupAt.sq {K : PySem.W.Frag} {S : Mark} {H : Hp} {a : Addr} {vs : List V} (h : TupAt K S H a vs) : SqT K H a vs := by
  rcases h with ⟨_, h⟩ | h
  · exact .inl (.inl h)
  · exact .inr h

/-- a list that is read alone: the script -/
def ScrAt (K : PySem.W.Frag) (S : Mark) (H : Hp) (a : Addr) (vs : List V) : Prop :=
  (¬ S a ∧ Rd H a (.lst vs)) ∨
    ∃ (o : Obj) (its : Array Value) (n : Nat), K.lookup a = some o ∧ o.cls = .type "list" ∧ o.dict = none ∧ o.data = .seq its n ∧ its.size ≤ sizeLine ∧ Vals vs its.toList
theorem ScrAt.sq {K : PySem.W.Frag} {S : Mark} {H : Hp} {a : Addr} {vs : List V} (h : ScrAt K S H a vs) : SqL K H a vs := by
  rcases h with ⟨_, h⟩ | h
  · exact .inl h
  · exact .inr h

mutual
inductive Rep (K : PySem.W.Frag) (S : Mark) (H : Hp) : V → D → Prop
  | non : Rep K S H .non .non
  | bl (b : Bool) : Rep K S H (.bl b) (.bl b)
  | int (i : Int) : Rep K S H (.int i) (.int i)
  | str (x : Str) : Rep K S H (.str x) (.str x)
  | ref (a : Addr) : Rep K S H (.ref a) (.ref a)
  | ty (n : String) : Rep K S H (.ty n) (.ty n)
  | cls (a : Addr) : Rep K S H (.ref a) (.cls a)
  | scr {a : Addr} {ns : List Int} : ScrAt K S H a (ns.map V.int) → Rep K S H (.ref a) (.scr ns)
  | tup {a : Addr} {vs : List V} {ds : List D} : TupAt K S H a vs → Reps K S H vs ds → Rep K S H (.ref a) (.tup ds)
  | lst {a : Addr} {vs : List V} {ds : List D} : ¬ S a → H a = some (.lst vs) → Reps K S H vs ds → Rep K S H (.ref a) (.lst ds)
  | dic {a : Addr} {ws : List (Key × V)} {kvs : List (Key × D)} : ¬ S a → Rd H a (.dK ws) → RepsK K S H ws kvs → Rep K S H (.ref a) (.dic kvs)
  | obj {a C dx : Addr} {ws : List (Str × V)} {fs : List (Str × D)} : ¬ S a → H a = some (.ins C dx ws) → RepsF K S H ws fs → Rep K S H (.ref a) (.obj C fs)
inductive Reps (K : PySem.W.Frag) (S : Mark) (H : Hp) : List V → List D → Prop
  | nil : Reps K S H [] []
  | cons {v : V} {vs : List V} {d : D} {ds : List D} : Rep K S H v d → Reps K S H vs ds → Reps K S H (v :: vs) (d :: ds)
inductive RepsK (K : PySem.W.Frag) (S : Mark) (H : Hp) : List (Key × V) → List (Key × D) → Prop
  | nil : RepsK K S H [] []
  | cons {k : Key} {v : V} {ws : List (Key × V)} {d : D} {ds : List (Key × D)} : Rep K S H v d → RepsK K S H ws ds → RepsK K S H ((k, v) :: ws) ((k, d) :: ds)
inductive RepsF (K : PySem.W.Frag) (S : Mark) (H : Hp) : List (Str × V) → List (Str × D) → Prop
  | nil : RepsF K S H [] []
  | cons {k : Str} {v : V} {ws : List (Str × V)} {d : D} {ds : List (Str × D)} : Rep K S H v d → RepsF K S H ws ds → RepsF K S H ((k, v) :: ws) ((k, d) :: ds)
end

/-- what is not marked is kept, and not marked -/
def Kp (S : Mark) (H : Hp) (S' : Mark) (H' : Hp) : Prop := ∀ b o, H b = some o → ¬ S b → H' b = some o ∧ ¬ S' b

section
variable {K : PySem.W.Frag} {S S' : Mark} {H H' : Hp}
theorem Kp.rd {a : Addr} {u : HO} (k : Kp S H S' H') (n : ¬ S a) (h : Rd H a u) : Rd H' a u ∧ ¬ S' a := by
  rcases h with h | ⟨o, h⟩
  · exact ⟨.inl (k _ _ h n).1, (k _ _ h n).2⟩
  · exact ⟨.inr ⟨o, (k _ _ h n).1⟩, (k _ _ h n).2⟩
theorem TupAt.mono (k : Kp S H S' H') {a : Addr} {vs : List V} (h : TupAt K S H a vs) : TupAt K S' H' a vs := by
  rcases h with ⟨h1, h2⟩ | h
  · exact .inl ⟨(k a _ h2 h1).2, (k a _ h2 h1).1⟩
  · exact .inr h
theorem ScrAt.mono (k : Kp S H S' H') {a : Addr} {vs : List V} (h : ScrAt K S H a vs) : ScrAt K S' H' a vs := by
  rcases h with ⟨h1, h2 | ⟨o, h2⟩⟩ | h
  · exact .inl ⟨(k a _ h2 h1).2, .inl (k a _ h2 h1).1⟩
  · exact .inl ⟨(k a _ h2 h1).2, .inr ⟨o, (k a _ h2 h1).1⟩⟩
  · exact .inr h
mutual
theorem Rep.mono (k : Kp S H S' H') : ∀ (d : D) (v : V), Rep K S H v d → Rep K S' H' v d
  | .non, _, h => by cases h; exact .non
  | .bl _, _, h => by cases h; exact .bl _
  | .int _, _, h => by cases h; exact .int _
  | .str _, _, h => by cases h; exact .str _
  | .ref _, _, h => by cases h; exact .ref _
  | .ty _, _, h => by cases h; exact .ty _
  | .cls _, _, h => by cases h; exact .cls _
  | .scr _, _, h => by
    cases h with
    | scr h1 => exact .scr (h1.mono k)
  | .tup ds, _, h => by
    cases h with
    | tup h1 h2 => exact .tup (h1.mono k) (Reps.mono k ds _ h2)
  | .lst ds, _, h => by
    cases h with
    | lst h1 h2 h3 => exact .lst (k _ _ h2 h1).2 (k _ _ h2 h1).1 (Reps.mono k ds _ h3)
  | .dic kvs, _, h => by
    cases h with
    | dic h1 h2 h3 => exact .dic (k.rd h1 h2).2 (k.rd h1 h2).1 (RepsK.mono k kvs _ h3)
  | .obj C fs, _, h => by
    cases h with
    | obj h1 h2 h3 => exact .obj (k _ _ h2 h1).2 (k _ _ h2 h1).1 (RepsF.mono k fs _ h3)
theorem Reps.mono (k : Kp S H S' H') : ∀ (ds : List D) (vs : List V), Reps K S H vs ds → Reps K S' H' vs ds
  | [], _, h => by cases h; exact .nil
  | d :: ds, _, h => by
    cases h with
    | cons a b => exact .cons (Rep.mono k d _ a) (Reps.mono k ds _ b)
theorem RepsK.mono (k : Kp S H S' H') : ∀ (ds : List (Key × D)) (vs : List (Key × V)), RepsK K S H vs ds → RepsK K S' H' vs ds
  | [], _, h => by cases h; exact .nil
  | (key, d) :: ds, _, h => by
    cases h with
    | cons a b => exact .cons (Rep.mono k d _ a) (RepsK.mono k ds _ b)
theorem RepsF.mono (k : Kp S H S' H') : ∀ (ds : List (Str × D)) (vs : List (Str × V)), RepsF K S H vs ds → RepsF K S' H' vs ds
  | [], _, h => by cases h; exact .nil
  | (key, d) :: ds, _, h => by
    cases h with
    | cons a b => exact .cons (Rep.mono k d _ a) (RepsF.mono k ds _ b)
end

/-! ### rows of data -/
theorem Reps.length : ∀ {vs : List V} {ds : List D}, Reps K S H vs ds → vs.length = ds.length := fun {vs ds} => by
  induction ds generalizing vs with
  | nil => intro h; cases h; rfl
  | cons d ds ih =>
    intro h
    cases h with
    | cons a b => rw [List.length_cons, List.length_cons, ih b]
theorem Reps.get {vs : List V} {ds : List D} (h : Reps K S H vs ds) {i : Nat} {d : D} (e : ds[i]? = some d) : ∃ v, vs[i]? = some v ∧ Rep K S H v d := by
  induction ds generalizing vs i with
  | nil => cases e
  | cons x ds ih =>
    cases h with
    | cons a b =>
      cases i with
      | zero => cases e; exact ⟨_, rfl, a⟩
      | succ i =>
        obtain ⟨v, h1, h2⟩ := ih b (i := i) e
        exact ⟨v, h1, h2⟩
theorem Reps.getV {vs : List V} {ds : List D} (h : Reps K S H vs ds) {i : Nat} {v : V} (e : vs[i]? = some v) : ∃ d, ds[i]? = some d ∧ Rep K S H v d := by
  induction ds generalizing vs i with
  | nil => cases h; cases e
  | cons x ds ih =>
    cases h with
    | cons a b =>
      cases i with
      | zero => cases e; exact ⟨_, rfl, a⟩
      | succ i =>
        obtain ⟨v, h1, h2⟩ := ih b (i := i) e
        exact ⟨v, h1, h2⟩
theorem Reps.append {vs ws : List V} {ds es : List D} (h : Reps K S H vs ds) (g : Reps K S H ws es) : Reps K S H (vs ++ ws) (ds ++ es) := by
  induction ds generalizing vs with
  | nil => cases h; exact g
  | cons x ds ih =>
    cases h with
    | cons a b => exact .cons a (ih b)
theorem Reps.one {v : V} {d : D} (h : Rep K S H v d) : Reps K S H [v] [d] := .cons h .nil
theorem Reps.take {vs : List V} {ds : List D} (n : Nat) (h : Reps K S H vs ds) : Reps K S H (vs.take n) (ds.take n) := by
  induction n generalizing vs ds with
  | zero => exact .nil
  | succ n ih =>
    cases h with
    | nil => exact .nil
    | cons a b => exact .cons a (ih b)
theorem Reps.drop {vs : List V} {ds : List D} (n : Nat) (h : Reps K S H vs ds) : Reps K S H (vs.drop n) (ds.drop n) := by
  induction n generalizing vs ds with
  | zero => exact h
  | succ n ih =>
    cases h with
    | nil => exact .nil
    | cons a b => exact ih b
theorem Reps.set {vs : List V} {ds : List D} {v : V} {d : D} (n : Nat) (r : Rep K S H v d) (h : Reps K S H vs ds) : Reps K S H (vs.set n v) (ds.set n d) := by
  induction n generalizing vs ds with
  | zero =>
    cases h with
    | nil => exact .nil
    | cons a b => exact .cons r b
  | succ n ih =>
    cases h with
    | nil => exact .nil
    | cons a b => exact .cons a (ih b)
theorem Reps.eraseIdx {vs : List V} {ds : List D} (n : Nat) (h : Reps K S H vs ds) : Reps K S H (vs.eraseIdx n) (ds.eraseIdx n) := by
  induction n generalizing vs ds with
  | zero =>
    cases h with
    | nil => exact .nil
    | cons a b => exact b
  | succ n ih =>
    cases h with
    | nil => exact .nil
    | cons a b => exact .cons a (ih b)
theorem Reps.dropLast {vs : List V} {ds : List D} (h : Reps K S H vs ds) : Reps K S H vs.dropLast ds.dropLast := by
  rw [List.dropLast_eq_take, List.dropLast_eq_take, h.length]
  exact h.take _
theorem Reps.reverse {vs : List V} {ds : List D} (h : Reps K S H vs ds) : Reps K S H vs.reverse ds.reverse := by
  induction ds generalizing vs with
  | nil => cases h; exact .nil
  | cons x ds ih =>
    cases h with
    | cons a b =>
      rw [List.reverse_cons, List.reverse_cons]
      exact (ih b).append (.one a)
theorem Reps.rep {vs : List V} {ds : List D} (h : Reps K S H vs ds) : ∀ k : Nat, Reps K S H (List.replicate k vs).flatten (List.replicate k ds).flatten
  | 0 => .nil
  | k + 1 => by
    rw [List.replicate_succ, List.replicate_succ, List.flatten_cons, List.flatten_cons]
    exact h.append (Reps.rep h k)
theorem Reps.ints (ns : List Int) : Reps K S H (ns.map V.int) (ns.map D.int) := by
  induction ns with
  | nil => exact .nil
  | cons n ns ih => exact .cons (.int n) ih
theorem Reps.ints_inv {vs : List V} {ns : List Int} (h : Reps K S H vs (ns.map D.int)) : vs = ns.map V.int := by
  induction ns generalizing vs with
  | nil => cases h; rfl
  | cons n ns ih =>
    cases h with
    | cons a b =>
      cases a
      rw [ih b]; rfl
theorem Reps.strs_inv {vs : List V} {ns : List Str} (h : Reps K S H vs (ns.map D.str)) : vs = ns.map V.str := by
  induction ns generalizing vs with
  | nil => cases h; rfl
  | cons n ns ih =>
    cases h with
    | cons a b =>
      cases a
      rw [ih b]; rfl
theorem Reps.bls_inv {vs : List V} {ns : List Bool} (h : Reps K S H vs (ns.map D.bl)) : vs = ns.map V.bl := by
  induction ns generalizing vs with
  | nil => cases h; rfl
  | cons n ns ih =>
    cases h with
    | cons a b =>
      cases a
      rw [ih b]; rfl
end

/-! ### owned objects -/
inductive N where
  | lst (xs : List D) | dic (kvs : List (Key × D)) | lok (od : Obj) (ws : List (Key × V)) (kvs : List (Key × D)) | ins (C dx : Addr) (fs : List (Str × D))
def N.toD : N → D
  | .lst xs => .lst xs
  | .dic kvs => .dic kvs
  | .lok _ _ kvs => .dic kvs
  | .ins C _ fs => .obj C fs
abbrev Mem := List (Addr × N)
def keys (M : Mem) : List Addr := M.map (·.1)
def SM (S0 : Mark) (M : Mem) : Mark := fun a => S0 a ∨ a ∈ keys M

def NodeAt (K : PySem.W.Frag) (S : Mark) (H : Hp) (a : Addr) : N → Prop
  | .lst ds => ∃ vs, H a = some (.lst vs) ∧ Reps K S H vs ds
  | .dic kvs => ∃ ws, H a = some (.dK ws) ∧ RepsK K S H ws kvs
  | .lok od ws kvs => H a = some (.frz od (.dK ws)) ∧ RepsK K S H ws kvs
  | .ins C dx fs => ∃ ws, H a = some (.ins C dx ws) ∧ RepsF K S H ws fs

structure MemOk (K : PySem.W.Frag) (S0 : Mark) (M : Mem) (H : Hp) : Prop where
  nd : (keys M).Nodup
  at_ : ∀ e ∈ M, NodeAt K (SM S0 M) H e.1 e.2
  trk : ∀ a, S0 a → H a ≠ none
  dis : ∀ a ∈ keys M, ¬ S0 a

structure Ext (M : Mem) (H : Hp) (M' : Mem) (H' : Hp) : Prop where
  keep : ∀ b o, H b = some o → b ∉ keys M → H' b = some o
  new : ∀ b ∈ keys M', b ∈ keys M ∨ H b = none
  trk : ∀ b, H b ≠ none → H' b ≠ none
theorem Ext.refl (M : Mem) (H : Hp) : Ext M H M H := ⟨fun _ _ e _ => e, fun _ e => .inl e, fun _ e => e⟩
theorem Ext.trans {M M1 M2 : Mem} {H H1 H2 : Hp} (a : Ext M H M1 H1) (b : Ext M1 H1 M2 H2) : Ext M H M2 H2 := by
  refine ⟨fun c o e n => ?_, fun c h => ?_, fun c e => b.trk c (a.trk c e)⟩
  · refine b.keep c o (a.keep c o e n) fun h => ?_
    rcases a.new c h with h | h
    · exact n h
    · rw [e] at h; cases h
  · rcases b.new c h with h | h
    · exact a.new c h
    · by_cases z : H c = none
      · exact .inr z
      · exact absurd h (a.trk c z)
theorem Ext.kp {S0 : Mark} {M M' : Mem} {H H' : Hp} (x : Ext M H M' H') : Kp (SM S0 M) H (SM S0 M') H' := fun b o e n => by
  refine ⟨x.keep b o e fun h => n (.inr h), fun h => ?_⟩
  rcases h with h | h
  · exact n (.inl h)
  · rcases x.new b h with h | h
    · exact n (.inr h)
    · rw [e] at h; cases h

abbrev Slots := List (Option D)
def SlOk (K : PySem.W.Frag) (S : Mark) (H : Hp) (σ : St) (sl : Slots) : Prop := ∀ (i : Nat) (d : D), sl[i]? = some (some d) → ∃ v, σ[i]? = some (some v) ∧ Rep K S H v d
structure Ok (K : PySem.W.Frag) (S0 : Mark) (sl : Slots) (M : Mem) (σ : St) (H : Hp) : Prop where
  len : sl.length = σ.length
  sl : SlOk K (SM S0 M) H σ sl
  mem : MemOk K S0 M H
section
variable {K : PySem.W.Frag} {S0 : Mark} {M M' M1 : Mem} {H H' H1 : Hp} {sl : Slots} {σ : St}
theorem Rep.ext {v : V} {d : D} (r : Rep K (SM S0 M) H v d) (x : Ext M H M' H') : Rep K (SM S0 M') H' v d := Rep.mono x.kp d v r
theorem Reps.ext {v : List V} {d : List D} (r : Reps K (SM S0 M) H v d) (x : Ext M H M' H') : Reps K (SM S0 M') H' v d := Reps.mono x.kp d v r
theorem Ok.ext (k : Ok K S0 sl M σ H) (m : MemOk K S0 M' H') (x : Ext M H M' H') : Ok K S0 sl M' σ H' :=
  ⟨k.len, fun i d e => let ⟨v, h1, h2⟩ := k.sl i d e; ⟨v, h1, h2.ext x⟩, m⟩
theorem Ok.set (k : Ok K S0 sl M σ H) (i : Nat) {v : V} {d : D} (r : Rep K (SM S0 M) H v d) : Ok K S0 (sl.set i (some d)) M (σ.set i (some v)) H := by
  refine ⟨by rw [List.length_set, List.length_set, k.len], fun j e h => ?_, k.mem⟩
  by_cases z : i = j
  · subst z
    have hl : i < sl.length := by
      have := (List.getElem?_eq_some_iff.mp h).1
      rwa [List.length_set] at this
    rw [List.getElem?_set_self hl] at h
    cases h
    exact ⟨v, by rw [List.getElem?_set_self (by rw [← k.len]; exact hl)], r⟩
  · rw [List.getElem?_set_ne z] at h
    obtain ⟨v', h1, h2⟩ := k.sl j e h
    exact ⟨v', by rw [List.getElem?_set_ne z]; exact h1, h2⟩
/-- a slot is forgotten -/
theorem Ok.forget (k : Ok K S0 sl M σ H) (i : Nat) : Ok K S0 (sl.set i none) M σ H := by
  refine ⟨by rw [List.length_set, k.len], fun j e h => ?_, k.mem⟩
  by_cases z : i = j
  · subst z
    have hl : i < sl.length := by
      have := (List.getElem?_eq_some_iff.mp h).1
      rwa [List.length_set] at this
    rw [List.getElem?_set_self hl] at h
    cases h
  · rw [List.getElem?_set_ne z] at h
    exact k.sl j e h

theorem keys_append : keys (M ++ M1) = keys M ++ keys M1 := by unfold keys; rw [List.map_append]
theorem keys_set {k : Nat} {p : Addr} {n n' : N} (h : M[k]? = some (p, n)) : keys (M.set k (p, n')) = keys M := by
  unfold keys
  rw [List.map_set]
  refine List.ext_getElem? fun j => ?_
  by_cases z : k = j
  · subst z
    have hl : k < M.length := (List.getElem?_eq_some_iff.mp h).1
    rw [List.getElem?_set_self (by rw [List.length_map]; exact hl), List.getElem?_map, h]
    rfl
  · rw [List.getElem?_set_ne z]
theorem mem_keys_of {k : Nat} {p : Addr} {n : N} (h : M[k]? = some (p, n)) : p ∈ keys M := List.mem_map.mpr ⟨(p, n), List.mem_of_getElem? h, rfl⟩
theorem SM_keys {M M' : Mem} (e : keys M' = keys M) : SM S0 M' = SM S0 M := by unfold SM; rw [e]

/-- the nodes keep what they are, where their own objects are kept -/
theorem NodeAt.mono {S S' : Mark} {a : Addr} {n : N} (k : Kp S H S' H') (e : H' a = H a) (h : NodeAt K S H a n) : NodeAt K S' H' a n := by
  cases n with
  | lst ds => obtain ⟨vs, h1, h2⟩ := h; exact ⟨vs, by rw [e]; exact h1, Reps.mono k _ _ h2⟩
  | dic ds => obtain ⟨vs, h1, h2⟩ := h; exact ⟨vs, by rw [e]; exact h1, RepsK.mono k _ _ h2⟩
  | lok od ws ds => obtain ⟨h1, h2⟩ := h; exact ⟨by rw [e]; exact h1, RepsK.mono k _ _ h2⟩
  | ins C dx fs => obtain ⟨vs, h1, h2⟩ := h; exact ⟨vs, by rw [e]; exact h1, RepsF.mono k _ _ h2⟩
theorem NodeAt.some {S : Mark} {a : Addr} {n : N} (h : NodeAt K S H a n) : H a ≠ none := by
  cases n with
  | lst ds => obtain ⟨vs, h1, h2⟩ := h; rw [h1]; exact fun z => by cases z
  | dic ds => obtain ⟨vs, h1, h2⟩ := h; rw [h1]; exact fun z => by cases z
  | lok od ws ds => obtain ⟨h1, h2⟩ := h; rw [h1]; exact fun z => by cases z
  | ins C dx fs => obtain ⟨vs, h1, h2⟩ := h; rw [h1]; exact fun z => by cases z
theorem MemOk.tracked (m : MemOk K S0 M H) : ∀ a, SM S0 M a → H a ≠ none := fun a h => by
  rcases h with h | h
  · exact m.trk a h
  · obtain ⟨⟨p, n⟩, h1, rfl⟩ := List.mem_map.mp h
    exact (m.at_ _ h1).some
theorem MemOk.free (m : MemOk K S0 M H) {p : Addr} (h : H p = none) : ¬ SM S0 M p := fun z => m.tracked p z h

/-- a new object, not owned -/
theorem Ext.new_imm {p : Addr} {o : HO} (h : H p = none) : Ext M H M (upd H p o) :=
  ⟨fun b o' e _ => by rw [upd_ne (ne_of_none e h)]; exact e, fun b e => .inl e, fun b e => by
    by_cases z : b = p
    · subst z; rw [upd_same]; exact fun z => by cases z
    · rw [upd_ne z]; exact e⟩
theorem MemOk.new_imm (m : MemOk K S0 M H) {p : Addr} {o : HO} (h : H p = none) : MemOk K S0 M (upd H p o) := by
  have x : Ext M H M (upd H p o) := .new_imm h
  refine ⟨m.nd, fun e he => (m.at_ e he).mono x.kp ?_, fun a s => x.trk a (m.trk a s), m.dis⟩
  rw [upd_ne]
  intro z
  exact (m.at_ e he).some (by rw [z]; exact h)
/-- a new object, owned -/
theorem Ext.new_own {p : Addr} {o : HO} {n : N} (h : H p = none) : Ext M H (M ++ [(p, n)]) (upd H p o) :=
  ⟨fun b o' e _ => by rw [upd_ne (ne_of_none e h)]; exact e, fun b e => by
    rw [keys_append] at e
    rcases List.mem_append.mp e with e | e
    · exact .inl e
    · have : b = p := by simpa [keys] using e
      subst this
      exact .inr h, (Ext.new_imm (M := M) h).trk⟩
theorem MemOk.new_own (m : MemOk K S0 M H) {p : Addr} {o : HO} {n : N} (h : H p = none) (g : NodeAt K (SM S0 (M ++ [(p, n)])) (upd H p o) p n) : MemOk K S0 (M ++ [(p, n)]) (upd H p o) := by
  have x : Ext M H (M ++ [(p, n)]) (upd H p o) := .new_own h
  have np : p ∉ keys M := fun z => m.free h (.inr z)
  refine ⟨?_, fun e he => ?_, fun a s => x.trk a (m.trk a s), fun a ha => ?_⟩
  · rw [keys_append]
    refine List.nodup_append.mpr ⟨m.nd, by simp [keys], fun a ha b hb => ?_⟩
    have : b = p := by simpa [keys] using hb
    subst this
    intro z; subst z
    exact np ha
  · rcases List.mem_append.mp he with he | he
    · refine (m.at_ e he).mono x.kp ?_
      rw [upd_ne]
      intro z
      exact (m.at_ e he).some (by rw [z]; exact h)
    · have : e = (p, n) := by simpa using he
      subst this
      exact g
  · rw [keys_append] at ha
    rcases List.mem_append.mp ha with ha | ha
    · exact m.dis a ha
    · have : a = p := by simpa [keys] using ha
      subst this
      exact fun z => m.trk a z h
/-- an owned object is written -/
theorem Ext.write {k : Nat} {p : Addr} {n n' : N} {o : HO} (e : M[k]? = some (p, n)) : Ext M H (M.set k (p, n')) (upd H p o) :=
  ⟨fun b o' e' hb => by rw [upd_ne (fun z => hb (by rw [z]; exact mem_keys_of e))]; exact e', fun b hb => by rw [keys_set e] at hb; exact .inl hb, fun b hb => by
    by_cases z : b = p
    · subst z; rw [upd_same]; exact fun z => by cases z
    · rw [upd_ne z]; exact hb⟩
theorem MemOk.write (m : MemOk K S0 M H) {k : Nat} {p : Addr} {n n' : N} {o : HO} (e : M[k]? = some (p, n)) (g : NodeAt K (SM S0 M) (upd H p o) p n') : MemOk K S0 (M.set k (p, n')) (upd H p o) := by
  have x : Ext M H (M.set k (p, n')) (upd H p o) := .write e
  have sk : SM S0 (M.set k (p, n')) = SM S0 M := SM_keys (keys_set e)
  refine ⟨by rw [keys_set e]; exact m.nd, fun q hq => ?_, fun a s => x.trk a (m.trk a s), fun a ha => by rw [keys_set e] at ha; exact m.dis a ha⟩
  obtain ⟨j, hj⟩ := List.getElem?_of_mem hq
  by_cases z : k = j
  · subst z
    rw [List.getElem?_set_self (List.getElem?_eq_some_iff.mp e).1] at hj
    cases hj
    rw [sk]; exact g
  · rw [List.getElem?_set_ne z] at hj
    have hm : q ∈ M := List.mem_of_getElem? hj
    have np : q.1 ≠ p := fun w => by
      have h1 : (keys M)[k]? = some p := by unfold keys; rw [List.getElem?_map, e]; rfl
      have h2 : (keys M)[j]? = some p := by unfold keys; rw [List.getElem?_map, hj]; exact congrArg some w
      exact z (nodup_ix2 m.nd h1 h2)
    exact (m.at_ q hm).mono x.kp (by rw [upd_ne np])
where
  nodup_ix2 {N : List Addr} (hN : N.Nodup) {i j : Nat} {x : Addr} (a : N[i]? = some x) (b : N[j]? = some x) : i = j := by
    obtain ⟨h1, e1⟩ := List.getElem?_eq_some_iff.mp a
    obtain ⟨h2, e2⟩ := List.getElem?_eq_some_iff.mp b
    exact (List.getElem_inj hN).mp (e1.trans e2.symm)
end
end OD

/-! OD2: expressions over data. -/
namespace OD
open PySem PySem.Spec L2

abbrev DK := D → Mem → Prop
abbrev XD := Value → Option (List (Str × D)) → Mem → Prop
abbrev DE := Slots → Mem → XD → DK → Prop
abbrev DT := Slots → Mem → XD → (Bool → Mem → Prop) → Prop
abbrev DA := Slots → Mem → XD → (List D → Mem → Prop) → Prop

/-- what is wanted of a value, over data and over the heap -/
def Lk (K : PySem.W.Frag) (S0 : Mark) (M : Mem) (H : Hp) (Q : VK) (QD : DK) : Prop := ∀ (d : D) (M' : Mem) (v : V) (H' : Hp), MemOk K S0 M' H' → Ext M H M' H' → Rep K (SM S0 M') H' v d → QD d M' → Q v H'
def XRep (K : PySem.W.Frag) (S : Mark) (H : Hp) : Option Addr → Option (List (Str × D)) → Prop
  | none, none => True
  | some a, some fs => ∃ ws, H a = some (.xd ws) ∧ RepsF K S H ws fs
  | _, _ => False
def XL (K : PySem.W.Frag) (S0 : Mark) (M : Mem) (H : Hp) (E : XK) (ED : XD) : Prop := ∀ (cls : Value) (fs : Option (List (Str × D))) (M' : Mem) (dd : Option Addr) (H' : Hp),
  MemOk K S0 M' H' → Ext M H M' H' → XRep K (SM S0 M') H' dd fs → ED cls fs M' → E cls dd H'
section
variable {K : PySem.W.Frag} {S0 : Mark} {M M' M1 : Mem} {H H' H1 : Hp} {sl : Slots} {σ : L2.St} {Q : VK} {QD : DK} {E : XK} {ED : XD}
theorem Lk.ext (l : Lk K S0 M H Q QD) (x : Ext M H M1 H1) : Lk K S0 M1 H1 Q QD := fun d M' v H' m y r q => l d M' v H' m (x.trans y) r q
theorem XL.ext (l : XL K S0 M H E ED) (x : Ext M H M1 H1) : XL K S0 M1 H1 E ED := fun c f M' d H' m y r q => l c f M' d H' m (x.trans y) r q
theorem Lk.now (l : Lk K S0 M H Q QD) (m : MemOk K S0 M H) {d : D} {v : V} (r : Rep K (SM S0 M) H v d) (q : QD d M) : Q v H := l d M v H m (.refl _ _) r q
end

def SimE (K : PySem.W.Frag) (E : L2.St → XK) (t : TE) (td : DE) : Prop := ∀ (S0 : Mark) (sl : Slots) (M : Mem) (σ : L2.St) (H : Hp) (Q : VK) (QD : DK) (ED : XD),
  Ok K S0 sl M σ H → XL K S0 M H (E σ) ED → td sl M ED QD → Lk K S0 M H Q QD → t σ H Q
def SimT (K : PySem.W.Frag) (E : L2.St → XK) (t : TT) (td : DT) : Prop := ∀ (S0 : Mark) (sl : Slots) (M : Mem) (σ : L2.St) (H : Hp) (Q : Bool → Hp → Prop) (QD : Bool → Mem → Prop) (ED : XD),
  Ok K S0 sl M σ H → XL K S0 M H (E σ) ED → td sl M ED QD → (∀ b M' H', MemOk K S0 M' H' → Ext M H M' H' → QD b M' → Q b H') → t σ H Q
def SimA (K : PySem.W.Frag) (E : L2.St → XK) (t : TA) (td : DA) : Prop := ∀ (S0 : Mark) (sl : Slots) (M : Mem) (σ : L2.St) (H : Hp) (Q : List V → Hp → Prop) (QD : List D → Mem → Prop) (ED : XD),
  Ok K S0 sl M σ H → XL K S0 M H (E σ) ED → td sl M ED QD → (∀ ds M' vs H', MemOk K S0 M' H' → Ext M H M' H' → Reps K (SM S0 M') H' vs ds → QD ds M' → Q vs H') → t σ H Q

structure DEx (X : Cx) (E : L2.St → XK) (e : Expr) (td : DE) : Prop where
  ex : ∃ t, PE X e t ∧ SimE X.K E t td
structure DTx (X : Cx) (E : L2.St → XK) (e : Expr) (td : DT) : Prop where
  ex : ∃ t, PT X e t ∧ SimT X.K E t td
structure DWx (X : Cx) (E : L2.St → XK) (e : Expr) (td : DT) : Prop where
  ex : ∃ t, PW X e t ∧ SimT X.K E t td
structure DAx (X : Cx) (E : L2.St → XK) (es : List Expr) (td : DA) : Prop where
  ex : ∃ t, PA X es t ∧ SimA X.K E t td

/-! ### a look at what an owned object holds -/
def vw (M : Mem) (d : D) (P : D → Prop) : Prop := match d with
  | .ref p => ∃ (k : Nat) (n : N), M[k]? = some (p, n) ∧ P n.toD
  | d => P d
inductive RepT (K : PySem.W.Frag) (S : Mark) (H : Hp) : V → D → Prop
  | imm {v : V} {d : D} : Rep K S H v d → RepT K S H v d
  | lst {a : Addr} {vs : List V} {ds : List D} : H a = some (.lst vs) → Reps K S H vs ds → RepT K S H (.ref a) (.lst ds)
  | dic {a : Addr} {vs : List (Key × V)} {ds : List (Key × D)} : Rd H a (.dK vs) → RepsK K S H vs ds → RepT K S H (.ref a) (.dic ds)
  | obj {a C dx : Addr} {vs : List (Str × V)} {ds : List (Str × D)} : H a = some (.ins C dx vs) → RepsF K S H vs ds → RepT K S H (.ref a) (.obj C ds)
section
variable {K : PySem.W.Frag} {S S0 : Mark} {M : Mem} {H : Hp} {v : V} {d : D} {P : D → Prop}
theorem vw_of (m : MemOk K S0 M H) (r : Rep K (SM S0 M) H v d) (h : vw M d P) : ∃ w, P w ∧ RepT K (SM S0 M) H v w := by
  cases d with
  | ref p =>
    obtain ⟨k, n, e, q⟩ := h
    have g := m.at_ _ (List.mem_of_getElem? e)
    cases r
    cases n with
    | lst ds => obtain ⟨vs, h1, h2⟩ := g; exact ⟨_, q, .lst h1 h2⟩
    | dic ds => obtain ⟨vs, h1, h2⟩ := g; exact ⟨_, q, .dic (.inl h1) h2⟩
    | lok od ws ds => obtain ⟨h1, h2⟩ := g; exact ⟨_, q, .dic (.inr ⟨od, h1⟩) h2⟩
    | ins C dx ds => obtain ⟨vs, h1, h2⟩ := g; exact ⟨_, q, .obj h1 h2⟩
  | _ => exact ⟨_, h, .imm r⟩
theorem RepT.lst_inv {ds : List D} (r : RepT K S H v (.lst ds)) : ∃ a vs, v = .ref a ∧ H a = some (.lst vs) ∧ Reps K S H vs ds := by
  cases r with
  | imm r => cases r with
    | lst h1 h2 h3 => exact ⟨_, _, rfl, h2, h3⟩
  | lst h1 h2 => exact ⟨_, _, rfl, h1, h2⟩
theorem RepT.tup_inv {ds : List D} (r : RepT K S H v (.tup ds)) : ∃ a vs, v = .ref a ∧ SqT K H a vs ∧ Reps K S H vs ds := by
  cases r with
  | imm r => cases r with
    | tup h1 h2 => exact ⟨_, _, rfl, h1.sq, h2⟩
theorem RepT.dic_inv {ds : List (Key × D)} (r : RepT K S H v (.dic ds)) : ∃ a vs, v = .ref a ∧ Rd H a (.dK vs) ∧ RepsK K S H vs ds := by
  cases r with
  | imm r => cases r with
    | dic h1 h2 h3 => exact ⟨_, _, rfl, h2, h3⟩
  | dic h1 h2 => exact ⟨_, _, rfl, h1, h2⟩
theorem RepT.obj_inv {C : Addr} {ds : List (Str × D)} (r : RepT K S H v (.obj C ds)) : ∃ a dx vs, v = .ref a ∧ H a = some (.ins C dx vs) ∧ RepsF K S H vs ds := by
  cases r with
  | imm r => cases r with
    | obj h1 h2 h3 => exact ⟨_, _, _, rfl, h2, h3⟩
  | obj h1 h2 => exact ⟨_, _, _, rfl, h1, h2⟩
theorem RepT.scr_inv {ns : List Int} (r : RepT K S H v (.scr ns)) : ∃ a, v = .ref a ∧ SqL K H a (ns.map V.int) := by
  cases r with
  | imm r => cases r with
    | scr h1 => exact ⟨_, rfl, h1.sq⟩
theorem RepT.int_inv {i : Int} (r : RepT K S H v (.int i)) : v = .int i := by
  cases r with
  | imm r => cases r; rfl
theorem RepT.bl_inv {i : Bool} (r : RepT K S H v (.bl i)) : v = .bl i := by
  cases r with
  | imm r => cases r; rfl
theorem RepT.str_inv {i : Str} (r : RepT K S H v (.str i)) : v = .str i := by
  cases r with
  | imm r => cases r; rfl
theorem RepT.non_inv (r : RepT K S H v .non) : v = .non := by
  cases r with
  | imm r => cases r; rfl
theorem RepT.ty_inv {n : String} (r : RepT K S H v (.ty n)) : v = .ty n := by
  cases r with
  | imm r => cases r; rfl
end

/-! ### new objects -/
/-- o: is the new object to be owned -/
def al (o : Bool) (n : N) (M : Mem) (Q : DK) : Prop := match o with
  | true => ∀ p, p ∉ keys M → Q (.ref p) (M ++ [(p, n)])
  | false => Q n.toD M
section
variable {K : PySem.W.Frag} {S0 : Mark} {M : Mem} {H : Hp} {Q : VK} {QD : DK}
theorem MemOk.notKey (m : MemOk K S0 M H) {p : Addr} (h : H p = none) : p ∉ keys M := fun z => m.free h (.inr z)
theorem al_lst {o : Bool} {vs : List V} {ds : List D} (m : MemOk K S0 M H) (r : Reps K (SM S0 M) H vs ds) (h : al o (.lst ds) M QD) (l : Lk K S0 M H Q QD) : ∀ p, H p = none → Q (.ref p) (upd H p (.lst vs)) := fun p np => by
  cases o with
  | true =>
    refine l (.ref p) _ _ _ (m.new_own (n := .lst ds) np ⟨vs, upd_same, r.ext (.new_own np)⟩) (.new_own np) (.ref p) (h p (m.notKey np))
  | false =>
    exact l (.lst ds) M _ _ (m.new_imm np) (.new_imm np) (.lst (m.free np) upd_same (r.ext (.new_imm np))) h
theorem al_dic {o : Bool} {vs : List (Key × V)} {ds : List (Key × D)} (m : MemOk K S0 M H) (r : RepsK K (SM S0 M) H vs ds) (h : al o (.dic ds) M QD) (l : Lk K S0 M H Q QD) : ∀ p, H p = none → Q (.ref p) (upd H p (.dK vs)) := fun p np => by
  cases o with
  | true =>
    refine l (.ref p) _ _ _ (m.new_own (n := .dic ds) np ⟨vs, upd_same, RepsK.mono (Ext.new_own np).kp _ _ r⟩) (.new_own np) (.ref p) (h p (m.notKey np))
  | false =>
    exact l (.dic ds) M _ _ (m.new_imm np) (.new_imm np) (.dic (m.free np) (.inl upd_same) (RepsK.mono (Ext.new_imm np).kp _ _ r)) h
theorem new_tup {vs : List V} {ds : List D} (m : MemOk K S0 M H) (r : Reps K (SM S0 M) H vs ds) (h : QD (.tup ds) M) (l : Lk K S0 M H Q QD) : ∀ p, H p = none → Q (.ref p) (upd H p (.tup vs)) := fun p np =>
  l (.tup ds) M _ _ (m.new_imm np) (.new_imm np) (.tup (.inl ⟨m.free np, upd_same⟩) (r.ext (.new_imm np))) h
end

/-! ### names, constants -/
section
variable {X : Cx} {E : L2.St → XK}
def dVar (i : Nat) : DE := fun sl M _ Q => ∃ d, sl[i]? = some (some d) ∧ Q d M
def dC (d : D) : DE := fun _ M _ Q => Q d M
theorem de_var {i : Nat} {e : Expr} (h : PE X e (tVar i)) : DEx X E e (dVar i) := ⟨_, h, fun S0 sl M σ H Q QD ED k xl hd l => by
  obtain ⟨d, e1, q⟩ := hd
  obtain ⟨v, e2, r⟩ := k.sl i d e1
  exact ⟨v, e2, l.now k.mem r q⟩⟩
theorem sim_c {K : PySem.W.Frag} {v : V} {d : D} (h : ∀ S H, Rep K S H v d) : SimE K E (tC v) (dC d) := fun S0 sl M σ H Q QD ED k xl hd l => l.now k.mem (h _ _) hd
theorem de_int {i : Int} {j pos} : DEx X E (.Constant (.int i) j pos) (dC (.int i)) := ⟨_, pe_int, sim_c fun _ _ => .int i⟩
theorem de_bl {i : Bool} {j pos} : DEx X E (.Constant (.bool i) j pos) (dC (.bl i)) := ⟨_, pe_bl, sim_c fun _ _ => .bl i⟩
theorem de_str {i : Str} {j pos} : DEx X E (.Constant (.str i) j pos) (dC (.str i)) := ⟨_, pe_str, sim_c fun _ _ => .str i⟩
theorem de_non {j pos} : DEx X E (.Constant .none j pos) (dC .non) := ⟨_, pe_non, sim_c fun _ _ => .non⟩
theorem de_glob {x : Str} {v : V} {d : D} {u : Value} {pos : Pos} (hg : Gl X x) (hm : X.mg x = some u) (r : RelV v u) (h : ∀ S H, Rep X.K S H v d) (hd : (x == ("__debug__" : Str)) = false := by decide) : DEx X E (.Name x pos) (dC d) := ⟨_, pe_glob hg hm r hd, sim_c h⟩
theorem de_bltn {x : Str} {v : V} {d : D} {u : Value} {pos : Pos} (hg : Gl X x) (hm : X.mg x = none) (hv : bootBuiltins x = some u) (r : RelV v u) (h : ∀ S H, Rep X.K S H v d) (hn : x ≠ "__name__" := by decide) (hd : (x == ("__debug__" : Str)) = false := by decide) : DEx X E (.Name x pos) (dC d) := ⟨_, pe_bltn hg hm hv r hn hd, sim_c h⟩

/-! ### operators by values -/
def SimV2 (K : PySem.W.Frag) (r : R2) (rd : D → D → Mem → DK → Prop) : Prop := ∀ (S0 : Mark) (M : Mem) (H : Hp) (x y : V) (dx dy : D) (Q : VK) (QD : DK),
  MemOk K S0 M H → RepT K (SM S0 M) H x dx → RepT K (SM S0 M) H y dy → rd dx dy M QD → Lk K S0 M H Q QD → r x y H Q
def dOp (rd : D → D → Mem → DK → Prop) (da db : DE) : DE := fun sl M ED Q => da sl M ED fun x M1 => db sl M1 ED fun y M2 => vw M2 x fun x' => vw M2 y fun y' => rd x' y' M2 Q
theorem sim_op {K : PySem.W.Frag} {r : R2} {rd : D → D → Mem → DK → Prop} {ta tb : TE} {da db : DE} (hr : SimV2 K r rd) (ha : SimE K E ta da) (hb : SimE K E tb db) : SimE K E (tOp r ta tb) (dOp rd da db) := by
  intro S0 sl M σ H Q QD ED k xl hd l
  refine ha S0 sl M σ H _ _ ED k xl hd fun d1 M1 x H1 m1 x1 r1 q1 => ?_
  refine hb S0 sl M1 σ H1 _ _ ED (k.ext m1 x1) (xl.ext x1) q1 fun d2 M2 y H2 m2 x2 r2 q2 => ?_
  obtain ⟨w1, q3, t1⟩ := vw_of m2 (r1.ext x2) q2
  obtain ⟨w2, q4, t2⟩ := vw_of m2 r2 q3
  exact hr S0 M2 H2 x y w1 w2 Q QD m2 t1 t2 q4 (l.ext (x1.trans x2))
def SimV1 (K : PySem.W.Frag) (r : V → Hp → VK → Prop) (rd : D → Mem → DK → Prop) : Prop := ∀ (S0 : Mark) (M : Mem) (H : Hp) (x : V) (dx : D) (Q : VK) (QD : DK),
  MemOk K S0 M H → RepT K (SM S0 M) H x dx → rd dx M QD → Lk K S0 M H Q QD → r x H Q
def dUn (rd : D → Mem → DK → Prop) (da : DE) : DE := fun sl M ED Q => da sl M ED fun x M1 => vw M1 x fun x' => rd x' M1 Q
theorem sim_un {K : PySem.W.Frag} {r : V → Hp → VK → Prop} {rd : D → Mem → DK → Prop} {ta : TE} {da : DE} (hr : SimV1 K r rd) (ha : SimE K E ta da) : SimE K E (tUn r ta) (dUn rd da) := by
  intro S0 sl M σ H Q QD ED k xl hd l
  refine ha S0 sl M σ H _ _ ED k xl hd fun d1 M1 x H1 m1 x1 r1 q1 => ?_
  obtain ⟨w1, q3, t1⟩ := vw_of m1 r1 q1
  exact hr S0 M1 H1 x w1 Q QD m1 t1 q3 (l.ext x1)
variable {a b c : Expr} {pos : Pos} {da db dc : DE}
theorem de_op {op : Operator} {r : R2} {rd : D → D → Mem → DK → Prop} (ho : OpR X (binaryOp op) r) (hr : SimV2 X.K r rd) (ha : DEx X E a da) (hb : DEx X E b db) : DEx X E (.BinOp a op b pos) (dOp rd da db) := by
  obtain ⟨ta, p1, s1⟩ := ha
  obtain ⟨tb, p2, s2⟩ := hb
  exact ⟨_, pe_op ho p1 p2, sim_op hr s1 s2⟩
theorem de_un {op : UnaryOp} {r : V → Hp → VK → Prop} {rd : D → Mem → DK → Prop} (ho : UnR X (unaryOp op) r) (hr : SimV1 X.K r rd) (ha : DEx X E a da) : DEx X E (.UnaryOp op a pos) (dUn rd da) := by
  obtain ⟨ta, p1, s1⟩ := ha
  exact ⟨_, pe_un ho p1, sim_un hr s1⟩
theorem de_cmp {op : CmpOp} {r : R2} {rd : D → D → Mem → DK → Prop} (ho : OpR X (compareOp op) r) (hr : SimV2 X.K r rd) (ha : DEx X E a da) (hb : DEx X E b db) (hm : behindInMarks op b = false := by first | exact nomark _ | rfl) : DEx X E (.Compare a [op] [b] pos) (dOp rd da db) := by
  obtain ⟨ta, p1, s1⟩ := ha
  obtain ⟨tb, p2, s2⟩ := hb
  exact ⟨_, pe_cmpR ho p1 p2 hm, sim_op hr s1 s2⟩
/-- a value that is a bool, as a test -/
def dTest (t : DE) : DT := fun sl M ED Q => t sl M ED fun x M' => ∃ k, x = .bl k ∧ Q k M'
theorem sim_test {K : PySem.W.Frag} {t : TE} {td : DE} (h : SimE K E t td) : SimT K E (tTest t) (dTest td) := by
  intro S0 sl M σ H Q QD ED k xl hd l
  refine h S0 sl M σ H _ _ ED k xl hd fun d1 M1 x H1 m1 x1 r1 q1 => ?_
  obtain ⟨b, e, q⟩ := q1
  subst e
  cases r1
  exact ⟨b, rfl, l b M1 H1 m1 x1 q⟩
theorem dt_cmp {op : CmpOp} {r : R2} {rd : D → D → Mem → DK → Prop} (ho : OpR X (compareOp op) r) (hr : SimV2 X.K r rd) (ha : DEx X E a da) (hb : DEx X E b db) (hm : behindInMarks op b = false := by first | exact nomark _ | rfl) : DTx X E (.Compare a [op] [b] pos) (dTest (dOp rd da db)) := by
  obtain ⟨ta, p1, s1⟩ := ha
  obtain ⟨tb, p2, s2⟩ := hb
  exact ⟨_, pt_cmpR ho p1 p2 hm, sim_test (sim_op hr s1 s2)⟩
/-- a < b < c -/
def dChain (rd rd' : D → D → Mem → DK → Prop) (da db dc : DE) : DE := fun sl M ED Q => da sl M ED fun x M1 => db sl M1 ED fun y M2 => vw M2 x fun x' => vw M2 y fun y' => rd x' y' M2 fun z M3 => ∃ k, z = .bl k ∧
  if k = true then dc sl M3 ED fun w M4 => vw M4 y fun y'' => vw M4 w fun w' => rd' y'' w' M4 Q else Q (.bl false) M3
theorem sim_chain {K : PySem.W.Frag} {r r' : R2} {rd rd' : D → D → Mem → DK → Prop} {ta tb tc : TE} {da db dc : DE} (hr : SimV2 K r rd) (hr' : SimV2 K r' rd') (ha : SimE K E ta da) (hb : SimE K E tb db) (hc : SimE K E tc dc) :
    SimE K E (tChain r r' ta tb tc) (dChain rd rd' da db dc) := by
  intro S0 sl M σ H Q QD ED k xl hd l
  refine ha S0 sl M σ H _ _ ED k xl hd fun d1 M1 x H1 m1 x1 r1 q1 => ?_
  refine hb S0 sl M1 σ H1 _ _ ED (k.ext m1 x1) (xl.ext x1) q1 fun d2 M2 y H2 m2 x2 r2 q2 => ?_
  obtain ⟨w1, q3, t1⟩ := vw_of m2 (r1.ext x2) q2
  obtain ⟨w2, q4, t2⟩ := vw_of m2 r2 q3
  refine hr S0 M2 H2 x y w1 w2 _ _ m2 t1 t2 q4 fun d3 M3 z H3 m3 x3 r3 q5 => ?_
  obtain ⟨b, e, q6⟩ := q5
  subst e
  cases r3
  refine ⟨b, rfl, ?_⟩
  have x13 := (x1.trans x2).trans x3
  cases b with
  | true =>
    rw [if_pos rfl] at q6 ⊢
    refine hc S0 sl M3 σ H3 _ _ ED (k.ext m3 x13) (xl.ext x13) q6 fun d4 M4 w H4 m4 x4 r4 q7 => ?_
    obtain ⟨w3, q8, t3⟩ := vw_of m4 (r2.ext (x3.trans x4)) q7
    obtain ⟨w4, q9, t4⟩ := vw_of m4 r4 q8
    exact hr' S0 M4 H4 y w w3 w4 Q QD m4 t3 t4 q9 (l.ext (x13.trans x4))
  | false =>
    rw [if_neg Bool.false_ne_true] at q6 ⊢
    exact l _ _ _ _ m3 x13 (.bl false) q6
theorem de_chain {op op' : CmpOp} {r r' : R2} {rd rd' : D → D → Mem → DK → Prop} (ho : OpR X (compareOp op) r) (hr : SimV2 X.K r rd) (ho' : OpR X (compareOp op') r') (hr' : SimV2 X.K r' rd') (ha : DEx X E a da) (hb : DEx X E b db) (hc : DEx X E c dc)
    (hm : lastMarks [op, op'] [b, c] = false := by with_unfolding_all rfl) : DEx X E (.Compare a [op, op'] [b, c] pos) (dChain rd rd' da db dc) := by
  obtain ⟨ta, p1, s1⟩ := ha
  obtain ⟨tb, p2, s2⟩ := hb
  obtain ⟨tc, p3, s3⟩ := hc
  exact ⟨_, pe_chain ho ho' p1 p2 p3 hm, sim_chain hr hr' s1 s2 s3⟩
theorem dt_chain {op op' : CmpOp} {r r' : R2} {rd rd' : D → D → Mem → DK → Prop} (ho : OpR X (compareOp op) r) (hr : SimV2 X.K r rd) (ho' : OpR X (compareOp op') r') (hr' : SimV2 X.K r' rd') (ha : DEx X E a da) (hb : DEx X E b db) (hc : DEx X E c dc)
    (hm : lastMarks [op, op'] [b, c] = false := by with_unfolding_all rfl) : DTx X E (.Compare a [op, op'] [b, c] pos) (dTest (dChain rd rd' da db dc)) := by
  obtain ⟨ta, p1, s1⟩ := ha
  obtain ⟨tb, p2, s2⟩ := hb
  obtain ⟨tc, p3, s3⟩ := hc
  exact ⟨_, pt_chain ho ho' p1 p2 p3 hm, sim_test (sim_chain hr hr' s1 s2 s3)⟩
end
end OD

/-! OD3: the operators by values. -/
namespace OD
open PySem PySem.Spec L2

/-! ### + - * // % ** -/
def addD (o : Bool) : D → D → Mem → DK → Prop
  | .int i, .int j, M, Q => Q (.int (i + j)) M
  | .str x, .str y, M, Q => x.length + y.length ≤ sizeLine ∧ Q (.str (x ++ y)) M
  | .lst a, .lst b, M, Q => a.length + b.length ≤ sizeLine ∧ al o (.lst (a ++ b)) M Q
  | .tup a, .tup b, M, Q => a.length + b.length ≤ sizeLine ∧ Q (.tup (a ++ b)) M
  | _, _, _, _ => False
def subD : D → D → Mem → DK → Prop
  | .int i, .int j, M, Q => Q (.int (i - j)) M
  | _, _, _, _ => False
def MulOk (i j : Int) : Prop := CMul i j ∨ CMulW i j
def mulD (o : Bool) : D → D → Mem → DK → Prop
  | .int i, .int j, M, Q => MulOk i j ∧ Q (.int (i * j)) M
  | .lst a, .int k, M, Q => -(2 ^ 63) ≤ k ∧ k < 2 ^ 63 ∧ a.length * k.toNat ≤ sizeLine ∧ al o (.lst (List.replicate k.toNat a).flatten) M Q
  | _, _, _, _ => False
def divD : D → D → Mem → DK → Prop
  | .int i, .int j, M, Q => (0 < j ∧ j.natAbs.log2 < 9000) ∧ Q (.int (i / j)) M
  | _, _, _, _ => False
def modD : D → D → Mem → DK → Prop
  | .int i, .int j, M, Q => 0 < j ∧ Q (.int (i % j)) M
  | _, _, _, _ => False
def powD : D → D → Mem → DK → Prop
  | .int i, .int j, M, Q => (0 ≤ j ∧ j ≤ 1000000 ∧ i.natAbs < 2 ^ 64) ∧ Q (.int (i ^ j.toNat)) M
  | _, _, _, _ => False
def ordD (f : Int → Int → Bool) (g : List Nat → List Nat → Bool) : D → D → Mem → DK → Prop
  | .int i, .int j, M, Q => Q (.bl (f i j)) M
  | .str x, .str y, M, Q => Q (.bl (g x.cps.toList y.cps.toList)) M
  | _, _, _, _ => False
abbrev ltD := ordD (fun i j => decide (i < j)) (fun x y => decide (x < y))
abbrev leD := ordD (fun i j => decide (i ≤ j)) (fun x y => !decide (y < x))
abbrev gtD := ordD (fun i j => decide (j < i)) (fun x y => decide (y < x))
abbrev geD := ordD (fun i j => decide (j ≤ i)) (fun x y => !decide (x < y))

section
variable {X : Cx} {K : PySem.W.Frag}
def rAddA (K : PySem.W.Frag) : R2 := fun x y H Q => rI0 (fun i j => .int (i + j)) x y H Q ∨ (∃ i j, x = .str i ∧ y = .str j ∧ i.length + j.length ≤ sizeLine ∧ Q (.str (i ++ j)) H) ∨ rCat x y H Q ∨ rCatA K x y H Q
theorem op_addA : OpR X (binaryOp .Add) (rAddA X.K) := op_add.or (op_add_str.or (op_cat.or op_catA))
theorem sv_add {o : Bool} : SimV2 K (rAddA K) (addD o) := by
  intro S0 M H x y dx dy Q QD m rx ry h l
  cases dx with
  | int i =>
    cases dy with
    | int j =>
      cases rx.int_inv; cases ry.int_inv
      exact .inl ⟨i, j, rfl, rfl, l.now m (.int _) h⟩
    | _ => exact h.elim
  | str i =>
    cases dy with
    | str j =>
      cases rx.str_inv; cases ry.str_inv
      exact .inr (.inl ⟨i, j, rfl, rfl, h.1, l.now m (.str _) h.2⟩)
    | _ => exact h.elim
  | lst a =>
    cases dy with
    | lst b =>
      obtain ⟨p, vs, rfl, h1, r1⟩ := rx.lst_inv
      obtain ⟨q, ws, rfl, h2, r2⟩ := ry.lst_inv
      exact .inr (.inr (.inl ⟨p, q, vs, ws, rfl, rfl, h1, h2, by rw [r1.length, r2.length]; exact h.1, al_lst m (r1.append r2) h.2 l⟩))
    | _ => exact h.elim
  | tup a =>
    cases dy with
    | tup b =>
      obtain ⟨p, vs, rfl, h1, r1⟩ := rx.tup_inv
      obtain ⟨q, ws, rfl, h2, r2⟩ := ry.tup_inv
      refine .inr (.inr (.inr ⟨p, q, vs, ws, rfl, rfl, h1, h2, by rw [r1.length, r2.length]; exact h.1, fun e => ?_, fun _ e => ?_, fun _ _ => new_tup m (r1.append r2) h.2 l⟩))
      · subst e
        cases r1
        cases ry with
        | imm r => exact l.now m r h.2
      · subst e
        cases r2
        cases rx with
        | imm r => exact l.now m r (by have := h.2; rwa [List.append_nil] at this)
    | _ => exact h.elim
  | _ => exact h.elim
theorem sv_sub : SimV2 K (rI0 fun i j => .int (i - j)) subD := by
  intro S0 M H x y dx dy Q QD m rx ry h l
  cases dx with
  | int i =>
    cases dy with
    | int j =>
      cases rx.int_inv; cases ry.int_inv
      exact ⟨i, j, rfl, rfl, l.now m (.int _) h⟩
    | _ => exact h.elim
  | _ => exact h.elim
def rMulA : R2 := fun x y H Q => rI CMul (fun i j => .int (i * j)) x y H Q ∨ rI CMulW (fun i j => .int (i * j)) x y H Q ∨ rRep x y H Q
theorem op_mulA : OpR X (binaryOp .Mult) rMulA := op_mul.or (op_mulW.or op_rep)
theorem sv_mul {o : Bool} : SimV2 K rMulA (mulD o) := by
  intro S0 M H x y dx dy Q QD m rx ry h l
  cases dx with
  | int i =>
    cases dy with
    | int j =>
      cases rx.int_inv; cases ry.int_inv
      rcases h.1 with c | c
      · exact .inl ⟨i, j, rfl, rfl, c, l.now m (.int _) h.2⟩
      · exact .inr (.inl ⟨i, j, rfl, rfl, c, l.now m (.int _) h.2⟩)
    | _ => exact h.elim
  | lst a =>
    cases dy with
    | int k =>
      obtain ⟨p, vs, rfl, h1, r1⟩ := rx.lst_inv
      cases ry.int_inv
      exact .inr (.inr ⟨p, k, vs, rfl, rfl, h1, h.1, h.2.1, by rw [r1.length]; exact h.2.2.1, al_lst m (r1.rep _) h.2.2.2 l⟩)
    | _ => exact h.elim
  | _ => exact h.elim
theorem sv_div : SimV2 K (rI CDivW fun i j => .int (i / j)) divD := by
  intro S0 M H x y dx dy Q QD m rx ry h l
  cases dx with
  | int i =>
    cases dy with
    | int j =>
      cases rx.int_inv; cases ry.int_inv
      exact ⟨i, j, rfl, rfl, h.1, l.now m (.int _) h.2⟩
    | _ => exact h.elim
  | _ => exact h.elim
theorem sv_mod : SimV2 K (rI (fun _ j => 0 < j) fun i j => .int (i % j)) modD := by
  intro S0 M H x y dx dy Q QD m rx ry h l
  cases dx with
  | int i =>
    cases dy with
    | int j =>
      cases rx.int_inv; cases ry.int_inv
      exact ⟨i, j, rfl, rfl, h.1, l.now m (.int _) h.2⟩
    | _ => exact h.elim
  | _ => exact h.elim
theorem sv_pow : SimV2 K (rI CPow fun i j => .int (i ^ j.toNat)) powD := by
  intro S0 M H x y dx dy Q QD m rx ry h l
  cases dx with
  | int i =>
    cases dy with
    | int j =>
      cases rx.int_inv; cases ry.int_inv
      exact ⟨i, j, rfl, rfl, h.1, l.now m (.int _) h.2⟩
    | _ => exact h.elim
  | _ => exact h.elim
def rOrd (f : Int → Int → Bool) (g : List Nat → List Nat → Bool) : R2 := fun x y H Q => rI0 (fun i j => .bl (f i j)) x y H Q ∨ ∃ i j, x = .str i ∧ y = .str j ∧ Q (.bl (g i.cps.toList j.cps.toList)) H
theorem sv_ord {f : Int → Int → Bool} {g : List Nat → List Nat → Bool} : SimV2 K (rOrd f g) (ordD f g) := by
  intro S0 M H x y dx dy Q QD m rx ry h l
  cases dx with
  | int i =>
    cases dy with
    | int j =>
      cases rx.int_inv; cases ry.int_inv
      exact .inl ⟨i, j, rfl, rfl, l.now m (.bl _) h⟩
    | _ => exact h.elim
  | str i =>
    cases dy with
    | str j =>
      cases rx.str_inv; cases ry.str_inv
      exact .inr ⟨i, j, rfl, rfl, l.now m (.bl _) h⟩
    | _ => exact h.elim
  | _ => exact h.elim
theorem op_ltA : OpR X (compareOp .Lt) (rOrd (fun i j => decide (i < j)) (fun x y => decide (x < y))) := op_lt.or op_lt_str
theorem op_leA : OpR X (compareOp .LtE) (rOrd (fun i j => decide (i ≤ j)) (fun x y => !decide (y < x))) := op_le.or op_le_str
theorem op_gtA : OpR X (compareOp .Gt) (rOrd (fun i j => decide (j < i)) (fun x y => decide (y < x))) := op_gt.or op_gt_str
theorem op_geA : OpR X (compareOp .GtE) (rOrd (fun i j => decide (j ≤ i)) (fun x y => !decide (x < y))) := op_ge.or op_ge_str
/-! ### - not -/
def negD : D → Mem → DK → Prop
  | .int i, M, Q => Q (.int (-i)) M
  | _, _, _ => False
theorem sv_neg : SimV1 K (rU fun i => .int (-i)) negD := by
  intro S0 M H x dx Q QD m rx h l
  cases dx with
  | int i =>
    cases rx.int_inv
    exact ⟨i, rfl, l.now m (.int _) h⟩
  | _ => exact h.elim

/-! ### == != is -/
mutual
def toPy : D → Option PyData
  | .non => some .none
  | .bl b => some (.bool b)
  | .int i => some (.int i)
  | .str x => some (.str x)
  | .lst xs => (toPys xs).map .list
  | .tup xs => (toPys xs).map .tuple
  | .ref _ => none
  | .ty _ => none
  | .cls _ => none
  | .scr _ => none
  | .dic _ => none
  | .obj _ _ => none
def toPys : List D → Option (List PyData)
  | [] => some []
  | d :: ds => (toPy d).bind fun x => (toPys ds).map fun xs => x :: xs
end
mutual
theorem dp_of {S : Mark} {H : Hp} : ∀ (d : D) (v : V) (p : PyData), Rep K S H v d → toPy d = some p → Dp K H v p
  | .non, _, _, r, e => by cases r; cases e; exact .non
  | .bl _, _, _, r, e => by cases r; cases e; exact .bl _
  | .int _, _, _, r, e => by cases r; cases e; exact .int _
  | .str _, _, _, r, e => by cases r; cases e; exact .str _
  | .lst xs, _, _, r, e => by
    cases r with
    | lst h1 h2 h3 =>
      unfold toPy at e
      cases q : toPys xs with
      | none => rw [q] at e; cases e
      | some ps =>
        rw [q] at e
        cases e
        exact .lst (.inl (.inl h2)) (dps_of xs _ _ h3 q)
  | .tup xs, _, _, r, e => by
    cases r with
    | tup h1 h3 =>
      unfold toPy at e
      cases q : toPys xs with
      | none => rw [q] at e; cases e
      | some ps =>
        rw [q] at e
        cases e
        exact .tup h1.sq (dps_of xs _ _ h3 q)
  | .ref _, _, _, _, e => by cases e
  | .ty _, _, _, _, e => by cases e
  | .cls _, _, _, _, e => by cases e
  | .scr _, _, _, _, e => by cases e
  | .dic _, _, _, _, e => by cases e
  | .obj _ _, _, _, _, e => by cases e
theorem dps_of {S : Mark} {H : Hp} : ∀ (ds : List D) (vs : List V) (ps : List PyData), Reps K S H vs ds → toPys ds = some ps → DpAll K H vs ps
  | [], _, _, r, e => by cases r; cases e; exact .nil
  | d :: ds, _, _, r, e => by
    cases r with
    | cons a b =>
      unfold toPys at e
      cases q : toPy d with
      | none => rw [q] at e; cases e
      | some p =>
        rw [q] at e
        cases q2 : toPys ds with
        | none => rw [q2] at e; cases e
        | some ps =>
          rw [q2] at e
          cases e
          exact .cons (dp_of d _ _ a q) (dps_of ds _ _ b q2)
end
theorem dpT_of {S : Mark} {H : Hp} {v : V} {d : D} {p : PyData} (r : RepT K S H v d) (e : toPy d = some p) : Dp K H v p := by
  cases r with
  | imm r => exact dp_of d v p r e
  | lst h1 h2 =>
    rename_i a vs ds
    unfold toPy at e
    cases q : toPys ds with
    | none => rw [q] at e; cases e
    | some ps =>
      rw [q] at e
      cases e
      exact .lst (.inl (.inl h1)) (dps_of ds _ _ h2 q)
  | dic h1 h2 => cases e
  | obj h1 h2 => cases e
/-- == of plain values -/
def eqS : D → D → Option Bool
  | .int i, .int j => some (decide (i = j))
  | .str x, .str y => some (decide (x = y))
  | .bl a, .bl b => some (decide (a = b))
  | .non, .non => some true
  | .non, .int _ => some false | .int _, .non => some false
  | .non, .str _ => some false | .str _, .non => some false
  | .non, .bl _ => some false | .bl _, .non => some false
  | .int _, .str _ => some false | .str _, .int _ => some false
  | .bl _, .str _ => some false | .str _, .bl _ => some false
  | _, _ => none
def xorB (n c : Bool) : Bool := match n with
  | true => !c
  | false => c
def eqD (n : Bool) (x y : D) (M : Mem) (Q : DK) : Prop := match eqS x y with
  | some c => Q (.bl (xorB n c)) M
  | none => ∃ a b, toPy x = some a ∧ toPy y = some b ∧ SeqAt.shaped a = true ∧ SeqAt.shaped b = true ∧ Q (.bl (xorB n (PyData.eqv a b))) M
theorem eqS_ok {S : Mark} {H : Hp} {x y : V} {dx dy : D} {c : Bool} (rx : RepT K S H x dx) (ry : RepT K S H y dy) (e : eqS dx dy = some c) : scal x y = true ∧ decide (x = y) = c := by
  cases dx <;> cases dy <;> first
    | (cases e; done)
    | ((first | (cases rx.int_inv) | (cases rx.str_inv) | (cases rx.bl_inv) | (cases rx.non_inv)); (first | (cases ry.int_inv) | (cases ry.str_inv) | (cases ry.bl_inv) | (cases ry.non_inv)); cases e; refine ⟨rfl, ?_⟩; simp)
def rEqA (K : PySem.W.Frag) : R2 := fun x y H Q => rEq x y H Q ∨ rEqD K x y H Q
def rNeA (K : PySem.W.Frag) : R2 := fun x y H Q => rNe x y H Q ∨ rNeD K x y H Q
theorem op_eqA (hu : X.A.units + 64 < cLine) : OpR X (compareOp .Eq) (rEqA X.K) := op_eq.or (op_eqD hu)
theorem op_neA (hu : X.A.units + 64 < cLine) : OpR X (compareOp .NotEq) (rNeA X.K) := op_ne.or (op_neD hu)
theorem sv_eq : SimV2 K (rEqA K) (eqD false) := by
  intro S0 M H x y dx dy Q QD m rx ry h l
  unfold eqD at h
  cases e : eqS dx dy with
  | some c =>
    rw [e] at h
    obtain ⟨h1, h2⟩ := eqS_ok rx ry e
    exact .inl ⟨h1, by rw [h2]; exact l.now m (.bl _) h⟩
  | none =>
    rw [e] at h
    obtain ⟨a, b, e1, e2, s1, s2, q⟩ := h
    exact .inr ⟨a, b, dpT_of rx e1, dpT_of ry e2, s1, s2, l.now m (.bl _) q⟩
theorem sv_ne : SimV2 K (rNeA K) (eqD true) := by
  intro S0 M H x y dx dy Q QD m rx ry h l
  unfold eqD at h
  cases e : eqS dx dy with
  | some c =>
    rw [e] at h
    obtain ⟨h1, h2⟩ := eqS_ok rx ry e
    exact .inl ⟨h1, by rw [h2]; exact l.now m (.bl _) h⟩
  | none =>
    rw [e] at h
    obtain ⟨a, b, e1, e2, s1, s2, q⟩ := h
    exact .inr ⟨a, b, dpT_of rx e1, dpT_of ry e2, s1, s2, l.now m (.bl _) q⟩
end
end OD

/-! OD4: places, slices, displays, built-in calls and methods. -/
namespace OD
open PySem PySem.Spec L2

section
variable {X : Cx} {E : L2.St → XK} {K : PySem.W.Frag}

/-! ### x[i] -/
def ixD : D → D → Mem → DK → Prop
  | .lst xs, .int i, M, Q => ∃ d, atI xs i = some d ∧ Q d M
  | .tup xs, .int i, M, Q => ∃ d, atI xs i = some d ∧ Q d M
  | .str z, .int i, M, Q => z.length ≤ sizeLine ∧ ∃ c, atI z.cps.toList i = some c ∧ Q (.str ⟨#[c]⟩) M
  | .dic kvs, .int i, M, Q => ∃ d, (kvs.find? fun kv => decide (kv.1 = Sum.inl i)).map (·.2) = some d ∧ Q d M
  | .dic kvs, .str x, M, Q => ∃ d, (kvs.find? fun kv => decide (kv.1 = Sum.inr x)).map (·.2) = some d ∧ Q d M
  | _, _, _, _ => False
theorem Reps.atI {S : Mark} {H : Hp} {vs : List V} {ds : List D} (h : Reps K S H vs ds) {i : Int} {d : D} (e : L2.atI ds i = some d) : ∃ v, L2.atI vs i = some v ∧ Rep K S H v d := by
  unfold L2.atI at e ⊢
  rw [h.length]
  cases q : ixN ds.length i with
  | none => rw [q] at e; cases e
  | some j =>
    rw [q] at e
    exact h.get e
theorem dgetR {H : Hp} {a : Addr} {kvs : List (Key × V)} {k : Key} (e : Rd H a (.dK kvs)) : DGet H a (kV k) (valV kvs k) := .inl ⟨kvs, k, e, rfl, rfl⟩
theorem RepsK.val {S : Mark} {H : Hp} {k : Key} {d : D} : ∀ {kvs : List (Key × D)} {ws : List (Key × V)}, RepsK K S H ws kvs → (kvs.find? fun kv => decide (kv.1 = k)).map (·.2) = some d → ∃ v, valV ws k = some v ∧ Rep K S H v d := by
  intro kvs
  induction kvs with
  | nil => intro ws _ e; cases e
  | cons p r ih =>
    intro ws h e
    cases h with
    | cons a b =>
      rename_i k' v' ws' d'
      by_cases z : k' = k
      · rw [List.find?_cons_of_pos (by simpa using z)] at e
        cases e
        exact ⟨v', valV_pos z, a⟩
      · rw [List.find?_cons_of_neg (by simpa using z)] at e
        obtain ⟨v, h1, h2⟩ := ih b e
        exact ⟨v, by rw [valV_neg z]; exact h1, h2⟩
theorem RepsK.valN {S : Mark} {H : Hp} {k : Key} : ∀ {kvs : List (Key × D)} {ws : List (Key × V)}, RepsK K S H ws kvs → (kvs.find? fun kv => decide (kv.1 = k)).map (·.2) = none → valV ws k = none := by
  intro kvs
  induction kvs with
  | nil => intro ws h _; cases h; rfl
  | cons p r ih =>
    intro ws h e
    cases h with
    | cons a b =>
      rename_i k' v' ws' d'
      by_cases z : k' = k
      · rw [List.find?_cons_of_pos (by simpa using z)] at e
        cases e
      · rw [List.find?_cons_of_neg (by simpa using z)] at e
        rw [valV_neg z]
        exact ih b e
def rIxD : R2 := fun x y H Q => ∃ a v, x = .ref a ∧ DGet H a y (some v) ∧ Q v H
theorem ix_dic (hu : X.A.units + 1 < cLine) : IxR X rIxD := by
  intro value slice pins s σ H x y v u Q I rx ry q hs
  obtain ⟨a, w, rfl, g, q⟩ := q
  cases rx
  refine PyProof.Rows.tail_any (dict_typeIs I g) PySem.F.slot_dict_getitem.lookup (d_getItem hu I g ry fun w' s3 I3 rw' => ⟨w, H, I3, rw', q⟩) hs
def rIxA (K : PySem.W.Frag) : R2 := fun x y H Q => rIx K x y H Q ∨ rIxD x y H Q
theorem ix_all (hu : X.A.units + 1 < cLine) : IxR X (rIxA X.K) := ix_seq.or (ix_dic hu)
theorem sv_ix : SimV2 K (rIxA K) ixD := by
  intro S0 M H x y dx dy Q QD m rx ry h l
  cases dx with
  | lst xs =>
    cases dy with
    | int i =>
      obtain ⟨a, vs, rfl, h1, r1⟩ := rx.lst_inv
      cases ry.int_inv
      obtain ⟨d, e, q⟩ := h
      obtain ⟨v, e2, r⟩ := r1.atI e
      exact .inl (.inl ⟨a, vs, i, v, rfl, rfl, .inl (.inl h1), e2, l.now m r q⟩)
    | _ => exact h.elim
  | tup xs =>
    cases dy with
    | int i =>
      obtain ⟨a, vs, rfl, h1, r1⟩ := rx.tup_inv
      cases ry.int_inv
      obtain ⟨d, e, q⟩ := h
      obtain ⟨v, e2, r⟩ := r1.atI e
      exact .inl (.inr (.inl ⟨a, vs, i, v, rfl, rfl, h1, e2, l.now m r q⟩))
    | _ => exact h.elim
  | str z =>
    cases dy with
    | int i =>
      cases rx.str_inv; cases ry.int_inv
      obtain ⟨hz, c, e, q⟩ := h
      exact .inl (.inr (.inr ⟨z, i, c, rfl, rfl, hz, e, l.now m (.str _) q⟩))
    | _ => exact h.elim
  | dic kvs =>
    obtain ⟨a, vs, rfl, h1, r1⟩ := rx.dic_inv
    cases dy with
    | int i =>
      cases ry.int_inv
      obtain ⟨d, e, q⟩ := h
      obtain ⟨v, e2, r⟩ := r1.val e
      exact .inr ⟨a, v, rfl, by rw [← e2]; exact dgetR (k := Sum.inl i) h1, l.now m r q⟩
    | str z =>
      cases ry.str_inv
      obtain ⟨d, e, q⟩ := h
      obtain ⟨v, e2, r⟩ := r1.val e
      exact .inr ⟨a, v, rfl, by rw [← e2]; exact dgetR (k := Sum.inr z) h1, l.now m r q⟩
    | _ => exact h.elim
  | _ => exact h.elim
variable {a b c : Expr} {es : List Expr} {pos : Pos} {da db dc : DE} {dr : DA}
theorem de_ix (hu : X.A.units + 64 < cLine) (ha : DEx X E a da) (hb : DEx X E b db) (hs : PlainIx b := by exact fun _ _ => rfl) : DEx X E (.Subscript a b pos) (dOp ixD da db) := by
  obtain ⟨ta, p1, s1⟩ := ha
  obtain ⟨tb, p2, s2⟩ := hb
  exact ⟨_, pe_ix (ix_all (by omega)) p1 p2 hs, sim_op sv_ix s1 s2⟩

/-! ### x[lo:hi] -/
def cutL {α : Type} (xs : List α) (lo hi : Option Int) : List α := (xs.drop (HT.sIx xs.length 0 lo)).take (HT.sIx xs.length xs.length hi - HT.sIx xs.length 0 lo)
theorem Reps.cut {S : Mark} {H : Hp} {vs : List V} {ds : List D} (h : Reps K S H vs ds) (lo hi : Option Int) : Reps K S H (cutV vs lo hi) (cutL ds lo hi) := by
  unfold cutV cutL
  rw [h.length]
  exact (h.drop _).take _
theorem cutL_map {α β : Type} (f : α → β) (xs : List α) (lo hi : Option Int) : cutL (xs.map f) lo hi = (cutL xs lo hi).map f := by
  unfold cutL
  rw [List.length_map, List.map_take, List.map_drop]
abbrev DO := Slots → Mem → XD → (Option Int → Mem → Prop) → Prop
def SimO (K : PySem.W.Frag) (E : L2.St → XK) (t : TO) (td : DO) : Prop := ∀ (S0 : Mark) (sl : Slots) (M : Mem) (σ : L2.St) (H : Hp) (Q : Option Int → Hp → Prop) (QD : Option Int → Mem → Prop) (ED : XD),
  Ok K S0 sl M σ H → XL K S0 M H (E σ) ED → td sl M ED QD → (∀ b M' H', MemOk K S0 M' H' → Ext M H M' H' → QD b M' → Q b H') → t σ H Q
structure DOx (X : Cx) (E : L2.St → XK) (e : Option Expr) (td : DO) : Prop where
  ex : ∃ t, PO X e t ∧ SimO X.K E t td
def dNoPart : DO := fun _ M _ Q => Q none M
def dPart (t : DE) : DO := fun sl M ED Q => t sl M ED fun x M1 => ∃ i, x = .int i ∧ Q (some i) M1
theorem do_none : DOx X E none dNoPart := ⟨_, po_none, fun S0 sl M σ H Q QD ED k xl hd l => l _ _ _ k.mem (.refl _ _) hd⟩
theorem do_some (h : DEx X E a da) : DOx X E (some a) (dPart da) := by
  obtain ⟨ta, p1, s1⟩ := h
  refine ⟨_, po_some p1, fun S0 sl M σ H Q QD ED k xl hd l => s1 S0 sl M σ H _ _ ED k xl hd fun d1 M1 x H1 m1 x1 r1 q1 => ?_⟩
  obtain ⟨i, e, q⟩ := q1
  subst e
  cases r1
  exact ⟨i, rfl, l _ _ _ m1 x1 q⟩
def slD (o : Bool) : D → Option Int → Option Int → Mem → DK → Prop
  | .lst xs, lo, hi, M, Q => al o (.lst (cutL xs lo hi)) M Q
  | .tup xs, lo, hi, M, Q => Q (.tup (cutL xs lo hi)) M
  | .str z, lo, hi, M, Q => z.length ≤ sizeLine ∧ Q (.str (cutS z lo hi)) M
  | .scr ns, lo, hi, M, Q => al o (.lst ((cutL ns lo hi).map .int)) M Q
  | _, _, _, _, _ => False
def dSl (o : Bool) (da : DE) (dl dh : DO) : DE := fun sl M ED Q => da sl M ED fun x M1 => dl sl M1 ED fun lo M2 => dh sl M2 ED fun hi M3 => vw M3 x fun x' => slD o x' lo hi M3 Q
def rSlAll (K : PySem.W.Frag) : V → Option Int → Option Int → Hp → VK → Prop := fun x lo hi H Q => rSlL K x lo hi H Q ∨ rSlA K x lo hi H Q ∨ rSlS x lo hi H Q
theorem sl_all : SlR X (rSlAll X.K) := sl_list.or (sl_tupA.or sl_str)
theorem de_sl {o : Bool} {lo hi : Option Expr} {p2 : Pos} {dl dh : DO} (ha : DEx X E a da) (hl : DOx X E lo dl) (hh : DOx X E hi dh) : DEx X E (.Subscript a (.Slice lo hi none p2) pos) (dSl o da dl dh) := by
  obtain ⟨ta, p1, s1⟩ := ha
  obtain ⟨tl, p2, s2⟩ := hl
  obtain ⟨th, p3, s3⟩ := hh
  refine ⟨_, pe_slice sl_all p1 p2 p3, fun S0 sl M σ H Q QD ED k xl hd l => ?_⟩
  refine s1 S0 sl M σ H _ _ ED k xl hd fun d1 M1 x H1 m1 x1 r1 q1 => ?_
  refine s2 S0 sl M1 σ H1 _ _ ED (k.ext m1 x1) (xl.ext x1) q1 fun lo M2 H2 m2 x2 q2 => ?_
  have x12 := x1.trans x2
  refine s3 S0 sl M2 σ H2 _ _ ED (k.ext m2 x12) (xl.ext x12) q2 fun hi M3 H3 m3 x3 q3 => ?_
  obtain ⟨w, q, r⟩ := vw_of m3 (r1.ext (x2.trans x3)) q3
  have l' := l.ext (x12.trans x3)
  cases w with
  | lst xs =>
    obtain ⟨a, vs, rfl, h1, r1⟩ := r.lst_inv
    exact .inl ⟨a, vs, rfl, .inl (.inl h1), al_lst m3 (r1.cut lo hi) q l'⟩
  | scr ns =>
    obtain ⟨a, rfl, h1⟩ := r.scr_inv
    refine .inl ⟨a, _, rfl, h1, al_lst m3 ?_ q l'⟩
    have : cutV (ns.map V.int) lo hi = (cutL ns lo hi).map V.int := cutL_map V.int ns lo hi
    rw [this]
    exact .ints _
  | tup xs =>
    obtain ⟨a, vs, rfl, h1, r1⟩ := r.tup_inv
    refine .inr (.inl ⟨a, vs, rfl, h1, fun hw => ?_, fun _ => new_tup m3 (r1.cut lo hi) q l'⟩)
    have : cutL xs lo hi = xs := by
      unfold cutL
      rw [← r1.length, hw.1, hw.2, r1.length]
      simp
    cases r with
    | imm r => exact l'.now m3 r (by rw [← this]; exact q)
  | str z =>
    cases r.str_inv
    exact .inr (.inr ⟨z, rfl, q.1, l'.now m3 (.str _) q.2⟩)
  | _ => exact q.elim

/-! ### arguments, displays -/
def dNil : DA := fun _ M _ Q => Q [] M
def dCons (da : DE) (dr : DA) : DA := fun sl M ED Q => da sl M ED fun x M1 => dr sl M1 ED fun xs M2 => Q (x :: xs) M2
theorem da_nil : DAx X E [] dNil := ⟨_, pa_nil, fun S0 sl M σ H Q QD ED k xl hd l => l _ _ _ _ k.mem (.refl _ _) .nil hd⟩
theorem da_cons (ha : DEx X E a da) (hr : DAx X E es dr) (hs : starEach (a :: es) X.env = (false, eval a X.env) :: starEach es X.env := by rfl) : DAx X E (a :: es) (dCons da dr) := by
  obtain ⟨ta, p1, s1⟩ := ha
  obtain ⟨tr, p2, s2⟩ := hr
  refine ⟨_, pa_cons p1 p2 hs, fun S0 sl M σ H Q QD ED k xl hd l => ?_⟩
  refine s1 S0 sl M σ H _ _ ED k xl hd fun d1 M1 x H1 m1 x1 r1 q1 => ?_
  refine s2 S0 sl M1 σ H1 _ _ ED (k.ext m1 x1) (xl.ext x1) q1 fun ds M2 xs H2 m2 x2 r2 q2 => ?_
  exact l _ _ _ _ m2 (x1.trans x2) (.cons (r1.ext x2) r2) q2
def dTup (dr : DA) : DE := fun sl M ED Q => dr sl M ED fun ds M1 => ds.length ≤ sizeLine ∧ Q (.tup ds) M1
def dLst (o : Bool) (dr : DA) : DE := fun sl M ED Q => dr sl M ED fun ds M1 => ds.length ≤ sizeLine ∧ al o (.lst ds) M1 Q
theorem de_tup {k : Nat} (h : DAx X E es dr) : DEx X E (.Tuple es k pos) (dTup dr) := by
  obtain ⟨tr, p, s⟩ := h
  refine ⟨_, pe_tup p, fun S0 sl M σ H Q QD ED k xl hd l => s S0 sl M σ H _ _ ED k xl hd fun ds M1 vs H1 m1 x1 r1 q1 => ?_⟩
  exact ⟨by rw [r1.length]; exact q1.1, new_tup m1 r1 q1.2 (l.ext x1)⟩
theorem de_lst (o : Bool) (h : DAx X E es dr) : DEx X E (.List es pos) (dLst o dr) := by
  obtain ⟨tr, p, s⟩ := h
  refine ⟨_, pe_lst p, fun S0 sl M σ H Q QD ED k xl hd l => s S0 sl M σ H _ _ ED k xl hd fun ds M1 vs H1 m1 x1 r1 q1 => ?_⟩
  exact ⟨by rw [r1.length]; exact q1.1, al_lst m1 r1 q1.2 (l.ext x1)⟩
def dDic0 (o : Bool) : DE := fun _ M _ Q => al o (.dic []) M Q
theorem de_dic0 (o : Bool) : DEx X E (.Dict [] [] pos) (dDic0 o) := ⟨_, pe_dnewK, fun S0 sl M σ H Q QD ED k xl hd l => al_dic k.mem .nil hd l⟩

/-! ### built-in calls, by values -/
def vws (M : Mem) : List D → (List D → Prop) → Prop
  | [], P => P []
  | d :: ds, P => vw M d fun w => vws M ds fun ws => P (w :: ws)
inductive RepTs (K : PySem.W.Frag) (S : Mark) (H : Hp) : List V → List D → Prop
  | nil : RepTs K S H [] []
  | cons {v : V} {vs : List V} {d : D} {ds : List D} : RepT K S H v d → RepTs K S H vs ds → RepTs K S H (v :: vs) (d :: ds)
theorem vws_of {S0 : Mark} {M : Mem} {H : Hp} (m : MemOk K S0 M H) : ∀ {ds : List D} {vs : List V} {P : List D → Prop}, Reps K (SM S0 M) H vs ds → vws M ds P → ∃ ws, P ws ∧ RepTs K (SM S0 M) H vs ws := by
  intro ds
  induction ds with
  | nil => intro vs P r h; cases r; exact ⟨[], h, .nil⟩
  | cons d ds ih =>
    intro vs P r h
    cases r with
    | cons a b =>
      obtain ⟨w, h1, r1⟩ := vw_of m a h
      obtain ⟨ws, h2, r2⟩ := ih b h1
      exact ⟨w :: ws, h2, .cons r1 r2⟩
abbrev RC := List V → Hp → VK → Prop
abbrev RCD := List D → Mem → DK → Prop
def SimC (K : PySem.W.Frag) (r : RC) (rd : RCD) : Prop := ∀ (S0 : Mark) (M : Mem) (H : Hp) (vs : List V) (ds : List D) (Q : VK) (QD : DK), MemOk K S0 M H → RepTs K (SM S0 M) H vs ds → rd ds M QD → Lk K S0 M H Q QD → r vs H Q
def dCB (rd : RCD) (dr : DA) : DE := fun sl M ED Q => dr sl M ED fun ds M1 => vws M1 ds fun ws => rd ws M1 Q
theorem sim_cb {r : RC} {rd : RCD} {t : TA} {td : DA} (hr : SimC K r rd) (h : SimA K E t td) : SimE K E (tCB r t) (dCB rd td) := by
  intro S0 sl M σ H Q QD ED k xl hd l
  refine h S0 sl M σ H _ _ ED k xl hd fun ds M1 vs H1 m1 x1 r1 q1 => ?_
  obtain ⟨ws, q, r⟩ := vws_of m1 r1 q1
  exact hr S0 M1 H1 vs ws Q QD m1 r q (l.ext x1)
variable {x : Str} {p : Pos} {id T : String} {r : RC} {rd : RCD}
theorem de_callB (hc : CallR X (.builtin id) r) (hs : SimC X.K r rd) (hm : X.mg x = none) (ha : DAx X E (a :: es) dr) (hg : Gl X x := by rfl) (hv : bootBuiltins x = some (.builtin id) := by decide +kernel) (hn : x ≠ "__name__" := by decide) (hdb : (x == ("__debug__" : Str)) = false := by decide)
    (he : starEach (a :: es) X.env = (false, eval a X.env) :: starEach es X.env := by rfl) (hpl : (backTo pos (starEach es X.env)).any (·.1) = false := by rfl) : DEx X E (.Call (.Name x p) (a :: es) [] pos) (dCB rd dr) := by
  obtain ⟨ta, p1, s1⟩ := ha
  exact ⟨_, pe_callB hc hg hm hv p1 hn hdb he hpl, sim_cb hs s1⟩
theorem de_callTy (hc : CallR X (.type T) r) (hs : SimC X.K r rd) (hm : X.mg x = none) (ha : DAx X E (a :: es) dr) (hg : Gl X x := by rfl) (hv : bootBuiltins x = some (.type T) := by decide +kernel) (hn : x ≠ "__name__" := by decide) (hdb : (x == ("__debug__" : Str)) = false := by decide)
    (he : starEach (a :: es) X.env = (false, eval a X.env) :: starEach es X.env := by rfl) (hpl : (backTo pos (starEach es X.env)).any (·.1) = false := by rfl) : DEx X E (.Call (.Name x p) (a :: es) [] pos) (dCB rd dr) := by
  obtain ⟨ta, p1, s1⟩ := ha
  exact ⟨_, pe_callTy hc hg hm hv p1 hn hdb he hpl, sim_cb hs s1⟩

/-! of one argument -/
def oneD (f : D → Mem → DK → Prop) : RCD
  | [d], M, Q => f d M Q
  | _, _, _ => False
theorem sc_one {f : D → Mem → DK → Prop} (h : ∀ (S0 : Mark) (M : Mem) (H : Hp) (v : V) (d : D) (Q : VK) (QD : DK), MemOk K S0 M H → RepT K (SM S0 M) H v d → f d M QD → Lk K S0 M H Q QD → r [v] H Q) : SimC K r (oneD f) := by
  intro S0 M H vs ds Q QD m rs hd l
  cases rs with
  | nil => exact hd.elim
  | cons a b =>
    cases b with
    | nil => exact h S0 M H _ _ Q QD m a hd l
    | cons _ _ => exact hd.elim
def twoD (f : D → D → Mem → DK → Prop) : RCD
  | [d, e], M, Q => f d e M Q
  | _, _, _ => False
theorem sc_two {f : D → D → Mem → DK → Prop} (h : ∀ (S0 : Mark) (M : Mem) (H : Hp) (v w : V) (d e : D) (Q : VK) (QD : DK), MemOk K S0 M H → RepT K (SM S0 M) H v d → RepT K (SM S0 M) H w e → f d e M QD → Lk K S0 M H Q QD → r [v, w] H Q) : SimC K r (twoD f) := by
  intro S0 M H vs ds Q QD m rs hd l
  cases rs with
  | nil => exact hd.elim
  | cons a b =>
    cases b with
    | nil => exact hd.elim
    | cons a2 b =>
      cases b with
      | nil => exact h S0 M H _ _ _ _ Q QD m a a2 hd l
      | cons _ _ => exact hd.elim
/-! len -/
def lenD : RCD := oneD fun d M Q => match d with
  | .lst xs => Q (.int xs.length) M
  | .tup xs => Q (.int xs.length) M
  | .str z => z.length ≤ sizeLine ∧ Q (.int z.length) M
  | .dic kvs => Q (.int kvs.length) M
  | _ => False
def rLenA (K : PySem.W.Frag) : RC := fun xs H Q => (∃ p ys, xs = [.ref p] ∧ (SqL K H p ys ∨ SqT K H p ys) ∧ Q (.int ys.length) H) ∨ (∃ z, xs = [.str z] ∧ z.length ≤ sizeLine ∧ Q (.int z.length) H) ∨ ∃ a kvs, xs = [V.ref a] ∧ Rd H a (.dK kvs) ∧ Q (.int kvs.length) H
theorem call_lenR : CallR X (.builtin "len") (fun xs H Q => ∃ a kvs, xs = [V.ref a] ∧ Rd H a (.dK kvs) ∧ Q (.int kvs.length) H) := by
  intro pins s σ H xs us Q I r h
  obtain ⟨b, ks, rfl, hb, q⟩ := h
  obtain ⟨y, rfl, ry⟩ := vals1 r
  cases ry
  exact d_len I hb fun t s2 I2 => ⟨V.int ks.length, H, I2, ⟨t, rfl⟩, q⟩
theorem call_lenA : CallR X (.builtin "len") (rLenA X.K) := call_len_seq.or (call_len_str.or call_lenR)
theorem RepsK.length {S : Mark} {H : Hp} : ∀ {kvs : List (Key × D)} {ws : List (Key × V)}, RepsK K S H ws kvs → ws.length = kvs.length := by
  intro kvs
  induction kvs with
  | nil => intro ws h; cases h; rfl
  | cons p r ih => intro ws h; cases h with | cons a b => rw [List.length_cons, List.length_cons, ih b]
theorem sc_len : SimC K (rLenA K) lenD := sc_one fun S0 M H v d Q QD m r h l => by
  cases d with
  | lst xs =>
    obtain ⟨a, vs, rfl, h1, r1⟩ := r.lst_inv
    exact .inl ⟨a, vs, rfl, .inl (.inl (.inl h1)), by rw [r1.length]; exact l.now m (.int _) h⟩
  | tup xs =>
    obtain ⟨a, vs, rfl, h1, r1⟩ := r.tup_inv
    exact .inl ⟨a, vs, rfl, .inr h1, by rw [r1.length]; exact l.now m (.int _) h⟩
  | str z =>
    cases r.str_inv
    exact .inr (.inl ⟨z, rfl, h.1, l.now m (.int _) h.2⟩)
  | dic kvs =>
    obtain ⟨a, vs, rfl, h1, r1⟩ := r.dic_inv
    exact .inr (.inr ⟨a, vs, rfl, h1, by rw [r1.length]; exact l.now m (.int _) h⟩)
  | _ => exact h.elim
/-! abs, max, min of two, int, sum, all, any -/
def absD : RCD := oneD fun d M Q => match d with
  | .int i => Q (.int (if i < 0 then -i else i)) M
  | _ => False
theorem sc_abs : SimC K (fun xs H Q => ∃ i, xs = [.int i] ∧ Q (.int (if i < 0 then -i else i)) H) absD := sc_one fun S0 M H v d Q QD m r h l => by
  cases d with
  | int i => cases r.int_inv; exact ⟨i, rfl, l.now m (.int _) h⟩
  | _ => exact h.elim
def max2D : RCD := twoD fun d e M Q => match d, e with
  | .int i, .int j => Q (.int (if j > i then j else i)) M
  | _, _ => False
def min2D : RCD := twoD fun d e M Q => match d, e with
  | .int i, .int j => Q (.int (if j < i then j else i)) M
  | _, _ => False
theorem sc_max2 : SimC K (fun xs H Q => ∃ i j, xs = [.int i, .int j] ∧ Q (.int (if j > i then j else i)) H) max2D := sc_two fun S0 M H v w d e Q QD m r r2 h l => by
  cases d with
  | int i =>
    cases e with
    | int j => cases r.int_inv; cases r2.int_inv; exact ⟨i, j, rfl, l.now m (.int _) h⟩
    | _ => exact h.elim
  | _ => exact h.elim
theorem sc_min2 : SimC K (fun xs H Q => ∃ i j, xs = [.int i, .int j] ∧ Q (.int (if j < i then j else i)) H) min2D := sc_two fun S0 M H v w d e Q QD m r r2 h l => by
  cases d with
  | int i =>
    cases e with
    | int j => cases r.int_inv; cases r2.int_inv; exact ⟨i, j, rfl, l.now m (.int _) h⟩
    | _ => exact h.elim
  | _ => exact h.elim
def maxLD : RCD := oneD fun d M Q => match d with
  | .lst xs => ∃ ns : List Int, xs = ns.map .int ∧ 0 < ns.length ∧ ∀ m, m ∈ ns → (∀ y, y ∈ ns → y ≤ m) → Q (.int m) M
  | _ => False
def minLD : RCD := oneD fun d M Q => match d with
  | .lst xs => ∃ ns : List Int, xs = ns.map .int ∧ 0 < ns.length ∧ ∀ m, m ∈ ns → (∀ y, y ∈ ns → m ≤ y) → Q (.int m) M
  | _ => False
theorem sc_maxL : SimC K (rMax K) maxLD := sc_one fun S0 M H v d Q QD m r h l => by
  cases d with
  | lst xs =>
    obtain ⟨a, vs, rfl, h1, r1⟩ := r.lst_inv
    obtain ⟨ns, rfl, h2, h3⟩ := h
    cases r1.ints_inv
    exact ⟨a, ns, rfl, .inl (.inl h1), h2, fun k e1 e2 => l.now m (.int _) (h3 k e1 e2)⟩
  | _ => exact h.elim
theorem sc_minL : SimC K (rMin K) minLD := sc_one fun S0 M H v d Q QD m r h l => by
  cases d with
  | lst xs =>
    obtain ⟨a, vs, rfl, h1, r1⟩ := r.lst_inv
    obtain ⟨ns, rfl, h2, h3⟩ := h
    cases r1.ints_inv
    exact ⟨a, ns, rfl, .inl (.inl h1), h2, fun k e1 e2 => l.now m (.int _) (h3 k e1 e2)⟩
  | _ => exact h.elim
def intD : RCD := oneD fun d M Q => match d with
  | .int i => Q (.int i) M
  | .bl k => Q (.int (if k then 1 else 0)) M
  | _ => False
theorem sc_int : SimC K (fun xs H Q => (∃ i, xs = [.int i] ∧ Q (.int i) H) ∨ ∃ k, xs = [.bl k] ∧ Q (.int (if k then 1 else 0)) H) intD := sc_one fun S0 M H v d Q QD m r h l => by
  cases d with
  | int i => cases r.int_inv; exact .inl ⟨i, rfl, l.now m (.int _) h⟩
  | bl i => cases r.bl_inv; exact .inr ⟨i, rfl, l.now m (.int _) h⟩
  | _ => exact h.elim
def sumD : RCD := oneD fun d M Q => match d with
  | .lst xs => ∃ ns : List Int, xs = ns.map .int ∧ Q (.int ns.sum) M
  | _ => False
theorem sc_sum : SimC K (rSum K) sumD := sc_one fun S0 M H v d Q QD m r h l => by
  cases d with
  | lst xs =>
    obtain ⟨a, vs, rfl, h1, r1⟩ := r.lst_inv
    obtain ⟨ns, rfl, h3⟩ := h
    cases r1.ints_inv
    exact ⟨a, ns, rfl, .inl (.inl h1), l.now m (.int _) h3⟩
  | _ => exact h.elim
def allD : RCD := oneD fun d M Q => match d with
  | .lst xs => ∃ bs : List Bool, xs = bs.map .bl ∧ Q (.bl (bs.all _root_.id)) M
  | _ => False
theorem sc_all : SimC K (rAll K) allD := sc_one fun S0 M H v d Q QD m r h l => by
  cases d with
  | lst xs =>
    obtain ⟨a, vs, rfl, h1, r1⟩ := r.lst_inv
    obtain ⟨ns, rfl, h3⟩ := h
    cases r1.bls_inv
    exact ⟨a, ns, rfl, .inl (.inl h1), l.now m (.bl _) h3⟩
  | _ => exact h.elim
/-! list(x), tuple(x) -/
def listD (o : Bool) : RCD := oneD fun d M Q => match d with
  | .lst xs => al o (.lst xs) M Q
  | .tup xs => al o (.lst xs) M Q
  | _ => False
def rListA (K : PySem.W.Frag) : RC := fun xs H Q => ∃ p ys, xs = [.ref p] ∧ (SqL K H p ys ∨ SqT K H p ys) ∧ ∀ l, H l = none → Q (.ref l) (upd H l (.lst ys))
theorem sc_list {o : Bool} : SimC K (rListA K) (listD o) := sc_one fun S0 M H v d Q QD m r h l => by
  cases d with
  | lst xs =>
    obtain ⟨a, vs, rfl, h1, r1⟩ := r.lst_inv
    exact ⟨a, vs, rfl, .inl (.inl (.inl h1)), al_lst m r1 h l⟩
  | tup xs =>
    obtain ⟨a, vs, rfl, h1, r1⟩ := r.tup_inv
    exact ⟨a, vs, rfl, .inr h1, al_lst m r1 h l⟩
  | _ => exact h.elim
def tupleD : RCD := oneD fun d M Q => match d with
  | .lst xs => Q (.tup xs) M
  | .tup xs => Q (.tup xs) M
  | _ => False
def rTupleA (K : PySem.W.Frag) : RC := fun xs H Q => ∃ p ys, xs = [.ref p] ∧ ((SqL K H p ys ∧ ∀ l, H l = none → Q (.ref l) (upd H l (.tup ys))) ∨ (SqT K H p ys ∧ Q (.ref p) H))
theorem sc_tuple : SimC K (rTupleA K) tupleD := sc_one fun S0 M H v d Q QD m r h l => by
  cases d with
  | lst xs =>
    obtain ⟨a, vs, rfl, h1, r1⟩ := r.lst_inv
    exact ⟨a, vs, rfl, .inl ⟨.inl (.inl h1), new_tup m r1 h l⟩⟩
  | tup xs =>
    obtain ⟨a, vs, rfl, h1, r1⟩ := r.tup_inv
    cases r with
    | imm r => exact ⟨a, vs, rfl, .inr ⟨h1, l.now m r h⟩⟩
  | _ => exact h.elim
/-! isinstance(x, T), T built in -/
def tyD : D → Option String
  | .non => some "NoneType" | .bl _ => some "bool" | .int _ => some "int" | .str _ => some "str" | .lst _ => some "list" | .tup _ => some "tuple" | .dic _ => some "dict"
  | _ => none
def isiD : RCD := twoD fun d e M Q => match e with
  | .ty n => ∃ t b, tyD d = some t ∧ kitB t n = some b ∧ Q (.bl b) M
  | _ => False
theorem sc_isi : SimC K (rIsi K) isiD := sc_two fun S0 M H v w d e Q QD m r r2 h l => by
  cases e with
  | ty n =>
    cases r2.ty_inv
    obtain ⟨t, b, e, kb, q⟩ := h
    have fin : ∀ (x : V), TyX K H x (.type t) → rIsi K [x, .ty n] H Q := fun x hx => ⟨x, .ty n, .type t, .type n, b, rfl, .ty n, hx, kit_ty kb, l.now m (.bl _) q⟩
    cases d with
    | non => cases e; cases r.non_inv; exact fin _ (.base .non)
    | bl i => cases e; cases r.bl_inv; exact fin _ (.base (.bl _))
    | int i => cases e; cases r.int_inv; exact fin _ (.base (.int _))
    | str i => cases e; cases r.str_inv; exact fin _ (.base (.str _))
    | lst xs => cases e; obtain ⟨a, vs, rfl, h1, r1⟩ := r.lst_inv; exact fin _ (.base (.lst h1))
    | dic xs => cases e; obtain ⟨a, vs, rfl, h1, r1⟩ := r.dic_inv; exact fin _ (h1.elim (fun h1 => .base (.dK h1)) fun ⟨o, h1⟩ => .fDict h1)
    | tup xs =>
      cases e; obtain ⟨a, vs, rfl, h1, r1⟩ := r.tup_inv
      rcases h1 with (h1 | ⟨o, h1⟩) | ⟨o, its, n', h1, h2, _⟩
      · exact fin _ (.base (.tup h1))
      · exact fin _ (.fTuple h1)
      · exact fin _ (.kTuple h1 h2)
    | _ => cases e
  | _ => exact h.elim
end
end OD

/-! OD5: tests, calls of own defs, statements. -/
namespace OD
open PySem PySem.Spec L2

section
variable {X : Cx} {E : L2.St → XK} {K : PySem.W.Frag} {a b c : Expr} {es : List Expr} {pos : Pos} {da db dc : DE} {dr : DA} {ta tb : DT}

/-! ### tests -/
def truD (d : D) (M : Mem) (Q : Bool → Mem → Prop) : Prop := match d with
  | .non => Q false M
  | .bl b => Q b M
  | .int i => Q (i != 0) M
  | .str y => y.length ≤ sizeLine ∧ Q ((y.length : Int) != 0) M
  | .lst xs => Q (!xs.isEmpty) M
  | .tup xs => Q (!xs.isEmpty) M
  | _ => False
def dTru (da : DE) : DT := fun sl M ED Q => da sl M ED fun x M1 => vw M1 x fun w => truD w M1 Q
theorem isEmpty_len {α β : Type} {xs : List α} {ys : List β} (h : xs.length = ys.length) : xs.isEmpty = ys.isEmpty := by
  cases xs <;> cases ys <;> first | rfl | cases h
theorem dt_tru (ha : DEx X E a da) (he : ∀ whole, isTrue a X.env whole = (do let v ← whole; standAt a.pos; holding [v] (truthy v)) := by intro _; rfl) : DTx X E a (dTru da) := by
  obtain ⟨t, p, s⟩ := ha
  refine ⟨_, pt_truth p he, fun S0 sl M σ H Q QD ED k xl hd l => s S0 sl M σ H _ _ ED k xl hd fun d1 M1 x H1 m1 x1 r1 q1 => ?_⟩
  obtain ⟨w, q, r⟩ := vw_of m1 r1 q1
  cases w with
  | non => cases r.non_inv; exact ⟨false, rfl, l _ _ _ m1 x1 q⟩
  | bl b => cases r.bl_inv; exact ⟨b, rfl, l _ _ _ m1 x1 q⟩
  | int i => cases r.int_inv; exact ⟨_, rfl, l _ _ _ m1 x1 q⟩
  | str y => cases r.str_inv; exact ⟨_, ⟨q.1, rfl⟩, l _ _ _ m1 x1 q.2⟩
  | lst xs =>
    obtain ⟨a, vs, rfl, h1, r1⟩ := r.lst_inv
    exact ⟨_, .inl ⟨vs, .inl (.inl h1), rfl⟩, by rw [isEmpty_len r1.length]; exact l _ _ _ m1 x1 q⟩
  | tup xs =>
    obtain ⟨a, vs, rfl, h1, r1⟩ := r.tup_inv
    exact ⟨_, .inr (.inl ⟨vs, h1, rfl⟩), by rw [isEmpty_len r1.length]; exact l _ _ _ m1 x1 q⟩
  | _ => exact q.elim
def dAnd (t u : DT) : DT := fun sl M ED Q => t sl M ED fun c M1 => if c = true then u sl M1 ED Q else Q false M1
def dOr (t u : DT) : DT := fun sl M ED Q => t sl M ED fun c M1 => if c = true then Q true M1 else u sl M1 ED Q
def dNot (t : DT) : DT := fun sl M ED Q => t sl M ED fun c M1 => Q (!c) M1
theorem DWx.dt (h : DWx X E a ta) : DTx X E a ta := by
  obtain ⟨t, p, s⟩ := h
  exact ⟨_, p.pt, s⟩
theorem dw_and1 (h : DTx X E a ta) : DWx X E (.BoolOp .And [a] pos) ta := by
  obtain ⟨t, p, s⟩ := h
  exact ⟨_, pw_and1 p, s⟩
theorem dw_or1 (h : DTx X E a ta) : DWx X E (.BoolOp .Or [a] pos) ta := by
  obtain ⟨t, p, s⟩ := h
  exact ⟨_, pw_or1 p, s⟩
theorem sim_and {t u : TT} (h1 : SimT K E t ta) (h2 : SimT K E u tb) : SimT K E (tAnd t u) (dAnd ta tb) := fun S0 sl M σ H Q QD ED k xl hd l => h1 S0 sl M σ H _ _ ED k xl hd fun c M1 H1 m1 x1 q => by
  cases c with
  | true => rw [if_pos rfl] at q ⊢; exact h2 S0 sl M1 σ H1 Q QD ED (k.ext m1 x1) (xl.ext x1) q fun c M2 H2 m2 x2 q => l c M2 H2 m2 (x1.trans x2) q
  | false => rw [if_neg Bool.false_ne_true] at q ⊢; exact l _ _ _ m1 x1 q
theorem sim_or {t u : TT} (h1 : SimT K E t ta) (h2 : SimT K E u tb) : SimT K E (tOr t u) (dOr ta tb) := fun S0 sl M σ H Q QD ED k xl hd l => h1 S0 sl M σ H _ _ ED k xl hd fun c M1 H1 m1 x1 q => by
  cases c with
  | false => rw [if_neg Bool.false_ne_true] at q ⊢; exact h2 S0 sl M1 σ H1 Q QD ED (k.ext m1 x1) (xl.ext x1) q fun c M2 H2 m2 x2 q => l c M2 H2 m2 (x1.trans x2) q
  | true => rw [if_pos rfl] at q ⊢; exact l _ _ _ m1 x1 q
theorem dw_and (h1 : DTx X E a ta) (h2 : DWx X E (.BoolOp .And (b :: es) pos) tb) : DWx X E (.BoolOp .And (a :: b :: es) pos) (dAnd ta tb) := by
  obtain ⟨t, p, s⟩ := h1
  obtain ⟨u, q, r⟩ := h2
  exact ⟨_, pw_and p q, sim_and s r⟩
theorem dw_or (h1 : DTx X E a ta) (h2 : DWx X E (.BoolOp .Or (b :: es) pos) tb) : DWx X E (.BoolOp .Or (a :: b :: es) pos) (dOr ta tb) := by
  obtain ⟨t, p, s⟩ := h1
  obtain ⟨u, q, r⟩ := h2
  exact ⟨_, pw_or p q, sim_or s r⟩
theorem dt_not (h : DTx X E a ta) : DTx X E (.UnaryOp .Not a pos) (dNot ta) := by
  obtain ⟨t, p, s⟩ := h
  exact ⟨_, pt_not p, fun S0 sl M σ H Q QD ED k xl hd l => s S0 sl M σ H _ _ ED k xl hd fun c M1 H1 m1 x1 q => l _ _ _ m1 x1 q⟩
/-! .. as values: bools -/
def dAndV (t u : DE) : DE := fun sl M ED Q => t sl M ED fun x M1 => ∃ c, x = .bl c ∧ if c = true then u sl M1 ED Q else Q (.bl false) M1
def dOrV (t u : DE) : DE := fun sl M ED Q => t sl M ED fun x M1 => ∃ c, x = .bl c ∧ if c = true then Q (.bl true) M1 else u sl M1 ED Q
def dNotV (t : DE) : DE := fun sl M ED Q => t sl M ED fun x M1 => ∃ c, x = .bl c ∧ Q (.bl (!c)) M1
theorem de_one {op} (h : DEx X E a da) : DEx X E (.BoolOp op [a] pos) da := by
  obtain ⟨t, p, s⟩ := h
  exact ⟨_, pe_one p, s⟩
theorem de_and (h1 : DEx X E a da) (h2 : DEx X E (.BoolOp .And (b :: es) pos) db) : DEx X E (.BoolOp .And (a :: b :: es) pos) (dAndV da db) := by
  obtain ⟨t, p, s⟩ := h1
  obtain ⟨u, q, r⟩ := h2
  refine ⟨_, pe_and p q, fun S0 sl M σ H Q QD ED k xl hd l => s S0 sl M σ H _ _ ED k xl hd fun d1 M1 x H1 m1 x1 r1 q1 => ?_⟩
  obtain ⟨c, rfl, q⟩ := q1
  cases r1
  refine ⟨c, rfl, ?_⟩
  cases c with
  | true => rw [if_pos rfl] at q ⊢; exact r S0 sl M1 σ H1 Q QD ED (k.ext m1 x1) (xl.ext x1) q (l.ext x1)
  | false => rw [if_neg Bool.false_ne_true] at q ⊢; exact l _ _ _ _ m1 x1 (.bl _) q
theorem de_or (h1 : DEx X E a da) (h2 : DEx X E (.BoolOp .Or (b :: es) pos) db) : DEx X E (.BoolOp .Or (a :: b :: es) pos) (dOrV da db) := by
  obtain ⟨t, p, s⟩ := h1
  obtain ⟨u, q, r⟩ := h2
  refine ⟨_, pe_or p q, fun S0 sl M σ H Q QD ED k xl hd l => s S0 sl M σ H _ _ ED k xl hd fun d1 M1 x H1 m1 x1 r1 q1 => ?_⟩
  obtain ⟨c, rfl, q⟩ := q1
  cases r1
  refine ⟨c, rfl, ?_⟩
  cases c with
  | false => rw [if_neg Bool.false_ne_true] at q ⊢; exact r S0 sl M1 σ H1 Q QD ED (k.ext m1 x1) (xl.ext x1) q (l.ext x1)
  | true => rw [if_pos rfl] at q ⊢; exact l _ _ _ _ m1 x1 (.bl _) q
theorem de_not (h : DEx X E a da) : DEx X E (.UnaryOp .Not a pos) (dNotV da) := by
  obtain ⟨t, p, s⟩ := h
  refine ⟨_, pe_not p, fun S0 sl M σ H Q QD ED k xl hd l => s S0 sl M σ H _ _ ED k xl hd fun d1 M1 x H1 m1 x1 r1 q1 => ?_⟩
  obtain ⟨c, rfl, q⟩ := q1
  cases r1
  exact ⟨c, rfl, l _ _ _ _ m1 x1 (.bl _) q⟩
def dIf (t : DT) (da db : DE) : DE := fun sl M ED Q => t sl M ED fun c M1 => if c = true then da sl M1 ED Q else db sl M1 ED Q
theorem de_if (hc : DTx X E c ta) (h1 : DEx X E a da) (h2 : DEx X E b db) : DEx X E (.IfExp c a b pos) (dIf ta da db) := by
  obtain ⟨t, p, s⟩ := hc
  obtain ⟨u, q, r⟩ := h1
  obtain ⟨u2, q2, r2⟩ := h2
  refine ⟨_, pe_ifExp p q q2, fun S0 sl M σ H Q QD ED k xl hd l => s S0 sl M σ H _ _ ED k xl hd fun c M1 H1 m1 x1 q => ?_⟩
  cases c with
  | true => rw [if_pos rfl] at q ⊢; exact r S0 sl M1 σ H1 Q QD ED (k.ext m1 x1) (xl.ext x1) q (l.ext x1)
  | false => rw [if_neg Bool.false_ne_true] at q ⊢; exact r2 S0 sl M1 σ H1 Q QD ED (k.ext m1 x1) (xl.ext x1) q (l.ext x1)
/-- either of two readings -/
def dEither (da db : DE) : DE := fun sl M ED Q => da sl M ED Q ∨ db sl M ED Q
theorem de_either (h1 : DEx X E a da) (h2 : DEx X E a db) : DEx X E a (dEither da db) := by
  obtain ⟨t, p, s⟩ := h1
  obtain ⟨u, q, r⟩ := h2
  refine ⟨fun σ H Q => t σ H Q ∨ u σ H Q, ⟨fun pins st σ H Q I h => h.elim (p.run pins st σ H Q I) (q.run pins st σ H Q I)⟩, fun S0 sl M σ H Q QD ED k xl hd l => ?_⟩
  exact hd.imp (fun z => s S0 sl M σ H Q QD ED k xl z l) (fun z => r S0 sl M σ H Q QD ED k xl z l)
end

/-! ### promises of defs -/
/-- a def over data: its arguments, the owned objects that it is handed, what is wanted of an exception, of the value -/
abbrev FD := List D → Mem → XD → DK → Prop
def Pre (M M' : Mem) : Prop := keys (M'.take M.length) = keys M
def spD (K : PySem.W.Frag) (F : FD) : Sp := fun vs H Q E => ∃ (S0 : Mark) (ds : List D) (M : Mem) (QD : DK) (ED : XD), MemOk K S0 M H ∧ Reps K (SM S0 M) H vs ds ∧ F ds M ED QD ∧
  (∀ (d : D) (M' : Mem) (v : V) (H' : Hp), MemOk K S0 M' H' → Ext M H M' H' → Pre M M' → Rep K (SM S0 M') H' v d → QD d M' → Q v H') ∧
  (∀ (cls : Value) (fs : Option (List (Str × D))) (M' : Mem) (dd : Option Addr) (H' : Hp), MemOk K S0 M' H' → Ext M H M' H' → Pre M M' → XRep K (SM S0 M') H' dd fs → ED cls fs M' → E cls dd H')

def sel (ks : List Nat) (M : Mem) : Mem := ks.filterMap fun k => M[k]?
def putM : List Nat → Mem → Mem → Mem
  | [], M, Mc => M ++ Mc
  | k :: ks, M, e :: Mc => putM ks (M.set k e) Mc
  | _ :: _, M, [] => M

theorem sel_cons (k : Nat) (ks : List Nat) (M : Mem) : sel (k :: ks) M = (match M[k]? with | some e => [e] | none => []) ++ sel ks M := by
  unfold sel
  rw [List.filterMap_cons]
  cases M[k]? <;> rfl
theorem filterMap_eq {α β : Type} {f g : α → Option β} : ∀ {l : List α}, (∀ x ∈ l, f x = g x) → l.filterMap f = l.filterMap g := by
  intro l
  induction l with
  | nil => intro _; rfl
  | cons x l ih =>
    intro h
    rw [List.filterMap_cons, List.filterMap_cons, h x (by simp), ih fun y hy => h y (List.mem_cons_of_mem _ hy)]
theorem sel_at {ks : List Nat} {M : Mem} (h : (sel ks M).length = ks.length) : ∀ k ∈ ks, k < M.length := by
  induction ks with
  | nil => intro k hk; cases hk
  | cons j ks ih =>
    rw [sel_cons] at h
    have hle : (sel ks M).length ≤ ks.length := List.length_filterMap_le _ _
    cases e : M[j]? with
    | none =>
      rw [e] at h
      simp at h
      omega
    | some x =>
      rw [e] at h
      have h2 : (sel ks M).length = ks.length := by simpa using h
      intro k hk
      rcases List.mem_cons.mp hk with rfl | hk
      · exact (List.getElem?_eq_some_iff.mp e).1
      · exact ih h2 k hk
theorem mem_sel {ks : List Nat} {M : Mem} {e : Addr × N} : e ∈ sel ks M ↔ ∃ k ∈ ks, M[k]? = some e := by
  unfold sel
  rw [List.mem_filterMap]
theorem key_ix {M : Mem} (nd : (keys M).Nodup) {i j : Nat} {e f : Addr × N} (a : M[i]? = some e) (b : M[j]? = some f) (h : e.1 = f.1) : i = j := by
  have h1 : (keys M)[i]? = some e.1 := by unfold keys; rw [List.getElem?_map, a]; rfl
  have h2 : (keys M)[j]? = some e.1 := by unfold keys; rw [List.getElem?_map, b, h]; rfl
  obtain ⟨l1, e1⟩ := List.getElem?_eq_some_iff.mp h1
  obtain ⟨l2, e2⟩ := List.getElem?_eq_some_iff.mp h2
  exact (List.getElem_inj nd).mp (e1.trans e2.symm)
theorem nodup_sel {ks : List Nat} {M : Mem} (hk : ks.Nodup) (nd : (keys M).Nodup) : (keys (sel ks M)).Nodup := by
  induction ks with
  | nil => exact List.nodup_nil
  | cons k ks ih =>
    obtain ⟨h1, h2⟩ := List.nodup_cons.mp hk
    rw [sel_cons]
    cases e : M[k]? with
    | none => exact ih h2
    | some x =>
      show (x.1 :: keys (sel ks M)).Nodup
      refine List.nodup_cons.mpr ⟨fun hm => ?_, ih h2⟩
      obtain ⟨y, hy, ey⟩ := List.mem_map.mp hm
      obtain ⟨j, hj, ej⟩ := mem_sel.mp hy
      exact h1 (key_ix nd e ej ey.symm ▸ hj)
/-- what is put back: keys -/
theorem keys_put : ∀ {ks : List Nat} {M Mc : Mem}, ks.Nodup → (sel ks M).length = ks.length → keys (Mc.take ks.length) = keys (sel ks M) → keys (putM ks M Mc) = keys M ++ keys (Mc.drop ks.length) := by
  intro ks
  induction ks with
  | nil => intro M Mc _ _ _; show keys (M ++ Mc) = _; rw [keys_append]; rfl
  | cons k ks ih =>
    intro M Mc hk hl he
    obtain ⟨h1, h2⟩ := List.nodup_cons.mp hk
    have hlt := sel_at hl k (by simp)
    have ek : M[k]? = some M[k] := List.getElem?_eq_getElem hlt
    rw [sel_cons, ek] at hl he
    have hl2 : (sel ks M).length = ks.length := by simpa using hl
    cases Mc with
    | nil => cases he
    | cons e Mc =>
      have he' : e.1 :: keys (Mc.take ks.length) = M[k].1 :: keys (sel ks M) := he
      obtain ⟨q1, q2⟩ := List.cons.inj he'
      have ks_same : sel ks (M.set k e) = sel ks M := by
        unfold sel
        refine filterMap_eq fun j hj => ?_
        rw [List.getElem?_set_ne]
        intro z; subst z; exact h1 hj
      have kset : keys (M.set k e) = keys M := by
        have := keys_set (M := M) (k := k) (p := M[k].1) (n := M[k].2) (n' := e.2) ek
        rw [← this]
        unfold keys
        rw [show ((M[k].1, e.2) : Addr × N) = e from by rw [← q1]]
      show keys (putM ks (M.set k e) Mc) = keys M ++ keys (Mc.drop ks.length)
      rw [ih h2 (by rw [ks_same]; exact hl2) (by rw [ks_same]; exact q2), kset]
theorem mem_put : ∀ {ks : List Nat} {M Mc : Mem} {e : Addr × N}, (sel ks M).length = ks.length → ks.length ≤ Mc.length → e ∈ putM ks M Mc → e ∈ Mc ∨ ∃ k, k ∉ ks ∧ M[k]? = some e := by
  intro ks
  induction ks with
  | nil =>
    intro M Mc e _ _ h
    rcases List.mem_append.mp h with h | h
    · obtain ⟨k, hk⟩ := List.getElem?_of_mem h
      exact .inr ⟨k, by simp, hk⟩
    · exact .inl h
  | cons k ks ih =>
    intro M Mc e hl hc h
    cases Mc with
    | nil => simp at hc
    | cons f Mc =>
      have hlt := sel_at hl k (by simp)
      have hl2 : (sel ks (M.set k f)).length = ks.length := by
        have hall := sel_at hl
        unfold sel
        have : ∀ (l : List Nat), (∀ j ∈ l, j < M.length) → (l.filterMap fun j => (M.set k f)[j]?).length = l.length := by
          intro l
          induction l with
          | nil => intro _; rfl
          | cons j l ih =>
            intro hj
            have : j < (M.set k f).length := by rw [List.length_set]; exact hj j (by simp)
            rw [List.filterMap_cons, List.getElem?_eq_getElem this]
            show _ + 1 = _ + 1
            rw [ih fun x hx => hj x (List.mem_cons_of_mem _ hx)]
        exact this ks fun j hj => hall j (List.mem_cons_of_mem _ hj)
      rcases ih hl2 (by simpa using hc) h with h | ⟨j, hj, ej⟩
      · exact .inl (List.mem_cons_of_mem _ h)
      · by_cases z : k = j
        · subst z
          rw [List.getElem?_set_self hlt] at ej
          cases ej
          exact .inl (by simp)
        · rw [List.getElem?_set_ne z] at ej
          exact .inr ⟨j, by simp [hj, Ne.symm z], ej⟩
section
variable {K : PySem.W.Frag} {S0 : Mark} {M M' : Mem} {H H' : Hp} {ks : List Nat}
/-- the callee's mark -/
def mk0 (S0 : Mark) (ks : List Nat) (M : Mem) : Mark := fun a => SM S0 M a ∧ a ∉ keys (sel ks M)
theorem sub_keys : ∀ a, a ∈ keys (sel ks M) → a ∈ keys M := fun a h => by
  obtain ⟨e, he, rfl⟩ := List.mem_map.mp h
  obtain ⟨k, _, ek⟩ := mem_sel.mp he
  exact List.mem_map.mpr ⟨e, List.mem_of_getElem? ek, rfl⟩
theorem mk0_sm : SM (mk0 S0 ks M) (sel ks M) = SM S0 M := by
  funext a
  refine propext ⟨fun h => ?_, fun h => ?_⟩
  · rcases h with h | h
    · exact h.1
    · exact .inr (sub_keys a h)
  · by_cases z : a ∈ keys (sel ks M)
    · exact .inr z
    · exact .inl ⟨h, z⟩
theorem MemOk.sel (m : MemOk K S0 M H) (hk : ks.Nodup) : MemOk K (mk0 S0 ks M) (OD.sel ks M) H :=
  ⟨nodup_sel hk m.nd, fun e he => by
    rw [mk0_sm]
    obtain ⟨k, _, ek⟩ := mem_sel.mp he
    exact m.at_ e (List.mem_of_getElem? ek), fun a h => m.tracked a h.1, fun a h z => z.2 h⟩
theorem put_back (m : MemOk K S0 M H) (hk : ks.Nodup) (hl : (OD.sel ks M).length = ks.length) (m' : MemOk K (mk0 S0 ks M) M' H') (x : Ext (OD.sel ks M) H M' H') (pr : Pre (OD.sel ks M) M') :
    MemOk K S0 (putM ks M M') H' ∧ Ext M H (putM ks M M') H' ∧ SM S0 (putM ks M M') = SM (mk0 S0 ks M) M' := by
  unfold Pre at pr
  rw [hl] at pr
  have hc : ks.length ≤ M'.length := by
    have := congrArg List.length pr
    unfold keys at this
    rw [List.length_map, List.length_map, List.length_take, hl] at this
    omega
  have kp := keys_put hk hl pr
  have kM' : keys M' = keys (OD.sel ks M) ++ keys (M'.drop ks.length) := by
    rw [← pr, ← keys_append, List.take_append_drop]
  have nd' := m'.nd
  rw [kM'] at nd'
  have hnew : ∀ a ∈ keys (M'.drop ks.length), H a = none := fun a ha => by
    rcases x.new a (by rw [kM']; exact List.mem_append_right _ ha) with h | h
    · exact absurd rfl ((List.nodup_append.mp nd').2.2 a h a ha)
    · exact h
  have sm : SM S0 (putM ks M M') = SM (mk0 S0 ks M) M' := by
    funext a
    refine propext ⟨fun h => ?_, fun h => ?_⟩
    · by_cases z : a ∈ keys (OD.sel ks M)
      · exact .inr (by rw [kM']; exact List.mem_append_left _ z)
      · rcases h with h | h
        · exact .inl ⟨.inl h, z⟩
        · rw [kp] at h
          rcases List.mem_append.mp h with h | h
          · exact .inl ⟨.inr h, z⟩
          · exact .inr (by rw [kM']; exact List.mem_append_right _ h)
    · rcases h with h | h
      · rcases h.1 with h | h
        · exact .inl h
        · exact .inr (by rw [kp]; exact List.mem_append_left _ h)
      · rw [kM'] at h
        rcases List.mem_append.mp h with h | h
        · exact .inr (by rw [kp]; exact List.mem_append_left _ (sub_keys a h))
        · exact .inr (by rw [kp]; exact List.mem_append_right _ h)
  have ext : Ext M H (putM ks M M') H' := ⟨fun b o e n => x.keep b o e fun z => n (sub_keys b z), fun b hb => by
    rw [kp] at hb
    rcases List.mem_append.mp hb with h | h
    · exact .inl h
    · exact .inr (hnew b h), x.trk⟩
  refine ⟨⟨?_, fun e he => ?_, fun a h => x.trk a (m.trk a h), fun a ha z => ?_⟩, ext, sm⟩
  · rw [kp]
    refine List.nodup_append.mpr ⟨m.nd, (List.nodup_append.mp nd').2.1, fun a ha b hb q => ?_⟩
    subst q
    exact m.tracked a (.inr ha) (hnew a hb)
  · rw [sm]
    rcases mem_put hl hc he with h | ⟨k, hk', ek⟩
    · exact m'.at_ e h
    · rw [← sm]
      have hm := List.mem_of_getElem? ek
      refine (m.at_ e hm).mono ext.kp ?_
      have ne : e.1 ∉ keys (OD.sel ks M) := fun z => by
        obtain ⟨f, hf, ef⟩ := List.mem_map.mp z
        obtain ⟨j, hj, ej⟩ := mem_sel.mp hf
        exact hk' (key_ix m.nd ej ek ef ▸ hj)
      cases q : H e.1 with
      | none => exact absurd q (m.at_ e hm).some
      | some o => exact x.keep e.1 o q ne
  · rw [kp] at ha
    rcases List.mem_append.mp ha with h | h
    · exact m.dis a h z
    · exact m.trk a z (hnew a h)
end

/-! ### a call of an own def -/
def dCall (F : FD) (ks : List Nat) (dr : DA) : DE := fun sl M ED Q => dr sl M ED fun ds M1 => (sel ks M1).length = ks.length ∧ F ds (sel ks M1) (fun c fs Mc => ED c fs (putM ks M1 Mc)) fun d Mc => Q d (putM ks M1 Mc)
section
variable {X : Cx} {E : L2.St → XK} {K : PySem.W.Frag} {a : Expr} {es : List Expr} {pos p : Pos} {dr : DA} {F : FD} {ks : List Nat} {x : Str} {f : Addr} {fd : FuncData} {ps : List Str} {k : Nat} {CXf : CXT}
theorem sim_call {t : TA} (hk : ks.Nodup) (s : SimA K E t dr) : SimE K E (fun σ H Q => t σ H fun vs H1 => spD K F vs H1 Q (E σ)) (dCall F ks dr) := by
  intro S0 sl M σ H Q QD ED k xl hd l
  refine s S0 sl M σ H _ _ ED k xl hd fun ds M1 vs H1 m1 x1 r1 q1 => ?_
  obtain ⟨hl, q⟩ := q1
  refine ⟨mk0 S0 ks M1, ds, sel ks M1, _, _, m1.sel hk, by rw [mk0_sm]; exact r1, q, fun d M' v H' m' x' pr r' q' => ?_, fun cls fs M' dd H' m' x' pr r' q' => ?_⟩
  · obtain ⟨g1, g2, g3⟩ := put_back m1 hk hl m' x' pr
    exact l d _ v H' g1 (x1.trans g2) (by rw [g3]; exact r') q'
  · obtain ⟨g1, g2, g3⟩ := put_back m1 hk hl m' x' pr
    exact xl cls fs _ dd H' g1 (x1.trans g2) (by rw [g3]; exact r') q'
/-- .. of a def that lets nothing out -/
def dCall0 (F : FD) (ks : List Nat) (dr : DA) : DE := fun sl M ED Q => dr sl M ED fun ds M1 => (sel ks M1).length = ks.length ∧ F ds (sel ks M1) (fun _ _ _ => False) fun d Mc => Q d (putM ks M1 Mc)
theorem sim_call0 {t : TA} (hk : ks.Nodup) (s : SimA K E t dr) : SimE K E (tCall (spD K F) [] E0 t) (dCall0 F ks dr) := by
  intro S0 sl M σ H Q QD ED k xl hd l
  refine s S0 sl M σ H _ _ ED k xl hd fun ds M1 vs H1 m1 x1 r1 q1 => ?_
  obtain ⟨hl, q⟩ := q1
  rw [List.append_nil]
  refine ⟨mk0 S0 ks M1, ds, sel ks M1, _, _, m1.sel hk, by rw [mk0_sm]; exact r1, q, fun d M' v H' m' x' pr r' q' => ?_, fun cls fs M' dd H' m' x' pr r' q' => q'.elim⟩
  obtain ⟨g1, g2, g3⟩ := put_back m1 hk hl m' x' pr
  exact l d _ v H' g1 (x1.trans g2) (by rw [g3]; exact r') q'
/-- f(e, ..), f a def that lets nothing out -/
theorem de_call (F' : FnOk X.prog X.w X.K X.mg X.base CX0 k f fd ps (spD X.K F)) (hr : Room k X.A) (hm : X.mg x = some (.ref f)) (hkp : PySem.W.keepIn X.K (.ref f) = true) (hb : Binds X.K fd ps []) (ks : List Nat) (ha : DAx X E (a :: es) dr) (hk : ks.Nodup := by decide) (hg : Gl X x := by rfl)
    (hdb : (x == ("__debug__" : Str)) = false := by decide) (he : starEach (a :: es) X.env = (false, eval a X.env) :: starEach es X.env := by rfl) (hpl : (backTo pos (starEach es X.env)).any (·.1) = false := by rfl) :
    DEx X E (.Call (.Name x p) (a :: es) [] pos) (dCall0 F ks dr) := by
  obtain ⟨t, pa, s⟩ := ha
  exact ⟨_, pe_call F' hr hg hm hkp hb .nil pass0 pa hdb he hpl, sim_call0 hk s⟩
theorem de_call0 (F' : FnOk X.prog X.w X.K X.mg X.base CX0 k f fd ps (spD X.K F)) (hr : Room k X.A) (hm : X.mg x = some (.ref f)) (hkp : PySem.W.keepIn X.K (.ref f) = true) (hb : Binds X.K fd ps []) (ks : List Nat) (hk : ks.Nodup := by decide) (hg : Gl X x := by rfl)
    (hdb : (x == ("__debug__" : Str)) = false := by decide) :
    DEx X E (.Call (.Name x p) [] [] pos) (dCall0 F ks dNil) :=
  ⟨_, pe_call0 F' hr hg hm hkp hb .nil pass0 hdb, sim_call0 hk fun S0 sl M σ H Q QD ED k xl hd l => l _ _ _ _ k.mem (.refl _ _) .nil hd⟩
end
end OD

/-! OD6: statements, loops, comprehensions, methods, defs. -/
namespace OD
open PySem PySem.Spec L2

structure DEnds where
  nx : Slots → Mem → Prop
  rt : DK
  bk : Slots → Mem → Prop := fun _ _ => False
  ct : Slots → Mem → Prop := fun _ _ => False
  ex : Slots → XD := fun _ _ _ _ => False
abbrev DS := DEnds → Slots → Mem → Prop
structure LkS (K : PySem.W.Frag) (S0 : Mark) (M : Mem) (H : Hp) (Dd : DEnds) (Dn : Ends) (E : L2.St → XK) : Prop where
  nx : ∀ sl' M' σ' H', Ok K S0 sl' M' σ' H' → Ext M H M' H' → Dd.nx sl' M' → Dn.nx σ' H'
  rt : Lk K S0 M H Dn.rt Dd.rt
  bk : ∀ sl' M' σ' H', Ok K S0 sl' M' σ' H' → Ext M H M' H' → Dd.bk sl' M' → Dn.bk σ' H'
  ct : ∀ sl' M' σ' H', Ok K S0 sl' M' σ' H' → Ext M H M' H' → Dd.ct sl' M' → Dn.ct σ' H'
  ex : ∀ sl' M' σ' H', Ok K S0 sl' M' σ' H' → Ext M H M' H' → XL K S0 M' H' (E σ') (Dd.ex sl')
section
variable {K : PySem.W.Frag} {S0 : Mark} {M M1 : Mem} {H H1 : Hp} {Dd : DEnds} {Dn : Ends} {E : L2.St → XK} {sl : Slots} {σ : L2.St}
theorem LkS.ext (l : LkS K S0 M H Dd Dn E) (x : Ext M H M1 H1) : LkS K S0 M1 H1 Dd Dn E :=
  ⟨fun a b c d k y => l.nx a b c d k (x.trans y), l.rt.ext x, fun a b c d k y => l.bk a b c d k (x.trans y), fun a b c d k y => l.ct a b c d k (x.trans y), fun a b c d k y => l.ex a b c d k (x.trans y)⟩
theorem LkS.xl (l : LkS K S0 M H Dd Dn E) (k : Ok K S0 sl M σ H) : XL K S0 M H (E σ) (Dd.ex sl) := l.ex sl M σ H k (.refl _ _)
end
def SimS (K : PySem.W.Frag) (E : L2.St → XK) (t : TS) (td : DS) : Prop := ∀ (S0 : Mark) (sl : Slots) (M : Mem) (σ : L2.St) (H : Hp) (Dd : DEnds) (Dn : Ends),
  Ok K S0 sl M σ H → LkS K S0 M H Dd Dn E → td Dd sl M → t Dn σ H
structure DSx (X : Cx) (E : L2.St → XK) (st : Stmt) (td : DS) : Prop where
  ex : ∃ t, PS X st t ∧ SimS X.K E t td
structure DBx (X : Cx) (E : L2.St → XK) (st : List Stmt) (td : DS) : Prop where
  ex : ∃ t, PSs X st t ∧ SimS X.K E t td

section
variable {X : Cx} {E : L2.St → XK} {K : PySem.W.Frag} {a b c : Expr} {es : List Expr} {pos : Pos} {da db dc : DE} {dr : DA} {dt : DT} {st : Stmt} {sts sts2 : List Stmt} {td ud : DS}

/-! ### blocks -/
def dNext : DS := fun Dd sl M => Dd.nx sl M
def dSeq (t u : DS) : DS := fun Dd sl M => t { Dd with nx := u Dd } sl M
theorem db_nil : DBx X E [] dNext := ⟨_, pss_nil, fun S0 sl M σ H Dd Dn k l h => l.nx sl M σ H k (.refl _ _) h⟩
theorem db_one (h : DSx X E st td) : DBx X E [st] td := by
  obtain ⟨t, p, s⟩ := h
  exact ⟨_, pss_one p, s⟩
theorem db_cons (h : DSx X E st td) (h2 : DBx X E sts ud) : DBx X E (st :: sts) (dSeq td ud) := by
  obtain ⟨t, p, s⟩ := h
  obtain ⟨u, q, r⟩ := h2
  refine ⟨_, pss_cons p q, fun S0 sl M σ H Dd Dn k l h => s S0 sl M σ H { Dd with nx := ud Dd } _ k ⟨fun sl' M' σ' H' k' x' h' => ?_, l.rt, l.bk, l.ct, l.ex⟩ h⟩
  exact r S0 sl' M' σ' H' Dd Dn k' (l.ext x') h'
theorem ds_pass : DSx X E (.Pass pos) dNext := ⟨_, ps_pass, fun S0 sl M σ H Dd Dn k l h => l.nx sl M σ H k (.refl _ _) h⟩
theorem ds_doc {x j pos'} : DSx X E (.Expr (.Constant (.str x) j pos) pos') dNext := ⟨_, ps_doc, fun S0 sl M σ H Dd Dn k l h => l.nx sl M σ H k (.refl _ _) h⟩
def dBreak : DS := fun Dd sl M => Dd.bk sl M
def dCont : DS := fun Dd sl M => Dd.ct sl M
theorem ds_break : DSx X E (.Break pos) dBreak := ⟨_, ps_break, fun S0 sl M σ H Dd Dn k l h => l.bk sl M σ H k (.refl _ _) h⟩
theorem ds_cont : DSx X E (.Continue pos) dCont := ⟨_, ps_continue, fun S0 sl M σ H Dd Dn k l h => l.ct sl M σ H k (.refl _ _) h⟩
def dNever : DS := fun _ _ _ => False
theorem ds_never : DSx X E st dNever := ⟨_, ps_never, fun S0 sl M σ H Dd Dn k l h => h.elim⟩
theorem db_never : DBx X E sts dNever := ⟨_, pss_never, fun S0 sl M σ H Dd Dn k l h => h.elim⟩
def dDrop (da : DE) : DS := fun Dd sl M => da sl M (Dd.ex sl) fun _ M1 => Dd.nx sl M1
theorem ds_expr (h : DEx X E a da) (hs : swapsWith a none pos.line X.env = pure false := by rfl) : DSx X E (.Expr a pos) (dDrop da) := by
  obtain ⟨t, p, s⟩ := h
  exact ⟨_, ps_expr p hs, fun S0 sl M σ H Dd Dn k l h => s S0 sl M σ H _ _ _ k (l.xl k) h fun d M' v H' m x r q => l.nx sl M' σ H' (k.ext m x) x q⟩
/-- return: fz: an owned object that is handed back as data -/
def frzD (fz : Bool) (d : D) (M : Mem) (Q : DK) : Prop := match fz with
  | true => match d with
    | .ref p => ∃ (k : Nat) (n : N), M[k]? = some (p, n) ∧ Q n.toD (M.eraseIdx k)
    | d => Q d M
  | false => Q d M
theorem frz_key {M : Mem} {k : Nat} {p : Addr} {n : N} (nd : (keys M).Nodup) (e : M[k]? = some (p, n)) : p ∉ keys (M.eraseIdx k) := fun z => by
  obtain ⟨f, hf, ef⟩ := List.mem_map.mp z
  obtain ⟨j, ej⟩ := List.getElem?_of_mem hf
  rw [List.getElem?_eraseIdx] at ej
  by_cases h : j < k
  · rw [if_pos h] at ej
    have := key_ix nd ej e ef
    omega
  · rw [if_neg h] at ej
    have := key_ix nd ej e ef
    omega
theorem keys_erase {M : Mem} {k : Nat} : ∀ a, a ∈ keys (M.eraseIdx k) → a ∈ keys M := fun a h => by
  obtain ⟨f, hf, ef⟩ := List.mem_map.mp h
  exact List.mem_map.mpr ⟨f, List.mem_of_mem_eraseIdx hf, ef⟩
theorem keys_eraseIdx : ∀ (M : Mem) (k : Nat), keys (M.eraseIdx k) = (keys M).eraseIdx k
  | [], _ => rfl
  | _ :: _, 0 => rfl
  | e :: M, k + 1 => by
    show e.1 :: keys (M.eraseIdx k) = e.1 :: (keys M).eraseIdx k
    rw [keys_eraseIdx M k]
theorem kp_write {S0 : Mark} {M : Mem} {H : Hp} {k : Nat} {p : Addr} {n : N} (e : M[k]? = some (p, n)) (o : HO) : Kp (SM S0 M) H (SM S0 M) (upd H p o) := by
  have := (Ext.write (H := H) (n' := n) (o := o) e).kp (S0 := S0)
  rwa [SM_keys (keys_set e)] at this
/-- the k-th owned object is not owned any more -/
theorem frz_ok {S0 : Mark} {M : Mem} {H : Hp} {k : Nat} {p : Addr} {n : N} (m : MemOk K S0 M H) (e : M[k]? = some (p, n)) :
    MemOk K S0 (M.eraseIdx k) H ∧ Ext M H (M.eraseIdx k) H ∧ Rep K (SM S0 (M.eraseIdx k)) H (.ref p) n.toD := by
  have x : Ext M H (M.eraseIdx k) H := ⟨fun _ _ e _ => e, fun b hb => .inl (keys_erase b hb), fun _ h => h⟩
  have kp : Kp (SM S0 M) H (SM S0 (M.eraseIdx k)) H := x.kp
  have np : ¬ SM S0 (M.eraseIdx k) p := fun z => z.elim (m.dis p (mem_keys_of e)) (frz_key m.nd e)
  refine ⟨⟨?_, fun f hf => (m.at_ f (List.mem_of_mem_eraseIdx hf)).mono kp rfl, m.trk, fun a h => m.dis a (keys_erase a h)⟩, x, ?_⟩
  · rw [keys_eraseIdx]
    exact m.nd.sublist (List.eraseIdx_sublist _ _)
  · have g := m.at_ _ (List.mem_of_getElem? e)
    cases n with
    | lst ds => obtain ⟨vs, h1, h2⟩ := g; exact .lst np h1 (Reps.mono kp _ _ h2)
    | dic ds => obtain ⟨vs, h1, h2⟩ := g; exact .dic np (.inl h1) (RepsK.mono kp _ _ h2)
    | lok od ws ds => obtain ⟨h1, h2⟩ := g; exact .dic np (.inr ⟨od, h1⟩) (RepsK.mono kp _ _ h2)
    | ins C dx ds => obtain ⟨vs, h1, h2⟩ := g; exact .obj np h1 (RepsF.mono kp _ _ h2)
theorem frzD_ok {S0 : Mark} {M : Mem} {H : Hp} {fz : Bool} {d : D} {v : V} {QD : DK} {Q : VK} (m : MemOk K S0 M H) (r : Rep K (SM S0 M) H v d) (h : frzD fz d M QD) (l : Lk K S0 M H Q QD) : Q v H := by
  cases fz with
  | false => exact l.now m r h
  | true =>
    cases d with
    | ref p =>
      obtain ⟨k, n, e, q⟩ := h
      obtain ⟨g1, g2, g3⟩ := frz_ok m e
      cases r
      exact l _ _ _ _ g1 g2 g3 q
    | _ => exact l.now m r h
def dRet (fz : Bool) (da : DE) : DS := fun Dd sl M => da sl M (Dd.ex sl) fun d M1 => frzD fz d M1 Dd.rt
theorem ds_ret (fz : Bool) (h : DEx X E a da) : DSx X E (.Return (some a) pos) (dRet fz da) := by
  obtain ⟨t, p, s⟩ := h
  exact ⟨_, ps_ret p, fun S0 sl M σ H Dd Dn k l h => s S0 sl M σ H _ _ _ k (l.xl k) h fun d M' v H' m x r q => frzD_ok m r q (l.rt.ext x)⟩
def dRetN : DS := fun Dd _ M => Dd.rt .non M
theorem ds_retN : DSx X E (.Return none pos) dRetN := ⟨_, ps_retN, fun S0 sl M σ H Dd Dn k l h => l.rt.now k.mem .non h⟩
def dIfS (t : DT) (u w : DS) : DS := fun Dd sl M => t sl M (Dd.ex sl) fun c M1 => if c = true then u Dd sl M1 else w Dd sl M1
theorem ds_if (hc : DTx X E c dt) (h1 : DBx X E sts td) (h2 : DBx X E sts2 ud) : DSx X E (.If c sts sts2 pos) (dIfS dt td ud) := by
  obtain ⟨t, p, s⟩ := hc
  obtain ⟨u, q, r⟩ := h1
  obtain ⟨u2, q2, r2⟩ := h2
  refine ⟨_, ps_if p q q2, fun S0 sl M σ H Dd Dn k l h => s S0 sl M σ H _ _ _ k (l.xl k) h fun c M1 H1 m1 x1 q => ?_⟩
  cases c with
  | true => rw [if_pos rfl] at q ⊢; exact r S0 sl M1 σ H1 Dd Dn (k.ext m1 x1) (l.ext x1) q
  | false => rw [if_neg Bool.false_ne_true] at q ⊢; exact r2 S0 sl M1 σ H1 Dd Dn (k.ext m1 x1) (l.ext x1) q
/-- ahead of a block: what slot i holds is data from here on -/
def dFrz (i : Nat) (td : DS) : DS := fun Dd sl M => ∃ (p : Addr) (k : Nat) (n : N), sl[i]? = some (some (.ref p)) ∧ M[k]? = some (p, n) ∧ td Dd (sl.set i (some n.toD)) (M.eraseIdx k)
theorem db_frz (i : Nat) (h : DBx X E sts td) : DBx X E sts (dFrz i td) := by
  obtain ⟨t, p, s⟩ := h
  refine ⟨t, p, fun S0 sl M σ H Dd Dn k l h => ?_⟩
  obtain ⟨p, j, n, e1, e2, q⟩ := h
  obtain ⟨g1, g2, g3⟩ := frz_ok k.mem e2
  refine s S0 _ _ σ H Dd Dn ⟨by rw [List.length_set, k.len], fun i' d hd => ?_, g1⟩ (l.ext g2) q
  by_cases z : i = i'
  · subst z
    have hl : i < sl.length := (List.getElem?_eq_some_iff.mp e1).1
    rw [List.getElem?_set_self hl] at hd
    cases hd
    obtain ⟨v, h1, h2⟩ := k.sl i _ e1
    cases h2
    exact ⟨_, h1, g3⟩
  · rw [List.getElem?_set_ne z] at hd
    obtain ⟨v, h1, h2⟩ := k.sl i' d hd
    exact ⟨v, h1, h2.ext g2⟩

/-! ### targets -/
abbrev DG := D → Slots → Mem → (Slots → Mem → Prop) → Prop
abbrev DGs := List D → Slots → Mem → (Slots → Mem → Prop) → Prop
def SimG (K : PySem.W.Frag) (t : TG) (td : DG) : Prop := ∀ (S0 : Mark) (sl : Slots) (M : Mem) (σ : L2.St) (H : Hp) (v : V) (d : D) (Q : L2.St → Hp → Prop) (QD : Slots → Mem → Prop),
  Ok K S0 sl M σ H → Rep K (SM S0 M) H v d → td d sl M QD → (∀ sl' M' σ' H', Ok K S0 sl' M' σ' H' → Ext M H M' H' → QD sl' M' → Q σ' H') → t v σ H Q
def SimGs (K : PySem.W.Frag) (t : TGs) (td : DGs) : Prop := ∀ (S0 : Mark) (sl : Slots) (M : Mem) (σ : L2.St) (H : Hp) (v : List V) (d : List D) (Q : L2.St → Hp → Prop) (QD : Slots → Mem → Prop),
  Ok K S0 sl M σ H → Reps K (SM S0 M) H v d → td d sl M QD → (∀ sl' M' σ' H', Ok K S0 sl' M' σ' H' → Ext M H M' H' → QD sl' M' → Q σ' H') → t v σ H Q
structure DGx (X : Cx) (e : Expr) (td : DG) : Prop where
  ex : ∃ t, PG X e t ∧ SimG X.K t td
structure DGsx (X : Cx) (es : List Expr) (td : DGs) : Prop where
  ex : ∃ t, PGs X es t ∧ SimGs X.K t td
def dName (i : Nat) : DG := fun d sl M Q => Q (sl.set i (some d)) M
theorem sim_name {i : Nat} : SimG K (gName i) (dName i) := fun S0 sl M σ H v d Q QD k r h l => l _ _ _ _ (k.set i r) (.refl _ _) h
theorem dg_name {i : Nat} {x : Str} (hN : X.N.Nodup) (hi : X.N[i]? = some x := by rfl) (hx : Loc X.env.scope x := by first | exact .inl rfl | exact .inr rfl) (hf : X.fn x = true ∨ X.env.scope.names.lookup x = some .local := by first | exact .inl rfl | exact .inr rfl) : DGx X (.Name x pos) (dName i) := ⟨_, pg_name hN hi hx hf, sim_name⟩
def dgNil : DGs := fun ds sl M Q => ds = [] ∧ Q sl M
def dgCons (t : DG) (u : DGs) : DGs := fun ds sl M Q => ∃ d r, ds = d :: r ∧ t d sl M fun sl' M' => u r sl' M' Q
theorem dgs_nil : DGsx X [] dgNil := ⟨_, pgs_nil, fun S0 sl M σ H v d Q QD k r h l => by
  obtain ⟨rfl, h⟩ := h
  cases r
  exact ⟨rfl, l _ _ _ _ k (.refl _ _) h⟩⟩
theorem dgs_cons {t : DG} {u : DGs} (h1 : DGx X a t) (h2 : DGsx X es u) (hs : (assignEach (a :: es) X.env).map (·.2) = assign a X.env :: (assignEach es X.env).map (·.2) := by rfl) : DGsx X (a :: es) (dgCons t u) := by
  obtain ⟨t', p, s⟩ := h1
  obtain ⟨u', q, r⟩ := h2
  refine ⟨_, pgs_cons p q hs, fun S0 sl M σ H v d Q QD k rr h l => ?_⟩
  obtain ⟨d, ds, rfl, h⟩ := h
  cases rr with
  | cons r1 r2 =>
    refine ⟨_, _, rfl, s S0 sl M σ H _ d _ _ k r1 h fun sl' M' σ' H' k' x' h' => ?_⟩
    exact r S0 sl' M' σ' H' _ ds Q QD k' (r2.ext x') h' fun sl2 M2 σ2 H2 k2 x2 h2 => l _ _ _ _ k2 (x'.trans x2) h2
def dgTup (n : Nat) (t : DGs) : DG := fun d sl M Q => match d with
  | .tup ds => ds.length = n ∧ t ds sl M Q
  | _ => False
theorem dg_tup {j n : Nat} {t : DGs} (hc : X.calm = true) (h : DGsx X es t) (hn : (assignEach es X.env).length = n := by rfl) (hst : (assignEach es X.env).findIdx? (·.1) = none := by rfl) : DGx X (.Tuple es j pos) (dgTup n t) := by
  obtain ⟨t', p, s⟩ := h
  refine ⟨_, pg_tup hc p hn hst, fun S0 sl M σ H v d Q QD k r h l => ?_⟩
  cases d with
  | tup ds =>
    obtain ⟨h1, h2⟩ := h
    cases r with
    | tup r1 r2 => exact ⟨_, _, rfl, r1.sq, by rw [r2.length]; exact h1, s S0 sl M σ H _ ds Q QD k r2 h2 l⟩
  | _ => exact h.elim
def dAsg (da : DE) (g : DG) : DS := fun Dd sl M => da sl M (Dd.ex sl) fun d M1 => g d sl M1 Dd.nx
theorem sim_asg {te : TE} {g : TG} {dg : DG} (s : SimE K E te da) (r : SimG K g dg) : SimS K E (tAsg te g) (dAsg da dg) := fun S0 sl M σ H Dd Dn k l h => by
  refine s S0 sl M σ H _ _ _ k (l.xl k) h fun d M1 v H1 m1 x1 r1 q1 => ?_
  exact r S0 sl M1 σ H1 v d _ _ (k.ext m1 x1) r1 q1 fun sl' M' σ' H' k' x' h' => l.nx sl' M' σ' H' k' (x1.trans x') h'
theorem ds_asg {tg : Expr} {dg : DG} (h : DEx X E a da) (hg : DGx X tg dg) (hs : swapsWithSole [tg] a pos.line X.env = pure false := by rfl) (hw : swappedStores [tg] a X.env = pure none := by rfl)
    (h1 : (assignEach [tg] X.env).map (·.2) = [assign tg X.env] := by rfl) : DSx X E (.Assign [tg] a pos) (dAsg da dg) := by
  obtain ⟨t, p, s⟩ := h
  obtain ⟨g, q, r⟩ := hg
  exact ⟨_, ps_asg p q hs hw h1, sim_asg s r⟩
theorem ds_set {i : Nat} {x : Str} {pos' : Pos} (hN : X.N.Nodup) (h : DEx X E a da) (hi : X.N[i]? = some x := by rfl) (hx : Loc X.env.scope x := by first | exact .inl rfl | exact .inr rfl) (hs : swapsWith a (some (.Name x pos')) pos.line X.env = pure false := by rfl)
    (hf : X.fn x = true ∨ X.env.scope.names.lookup x = some .local := by first | exact .inl rfl | exact .inr rfl) : DSx X E (.Assign [.Name x pos'] a pos) (dAsg da (dName i)) := by
  obtain ⟨t, p, s⟩ := h
  exact ⟨_, ps_set hN hi hx p hs hf, sim_asg s sim_name⟩
/-- a, b = e1, e2 -/
def dPar (i j : Nat) (dr : DA) : DS := fun Dd sl M => dr sl M (Dd.ex sl) fun ds M1 => ∃ v w, ds = [v, w] ∧ Dd.nx ((sl.set i (some v)).set j (some w)) M1
theorem ds_par {i j : Nat} {x y : Str} {px py pt : Pos} {kt k2 pt2} (hc : X.calm = true) (hN : X.N.Nodup) (h : DAx X E [a, b] dr) (hi : X.N[i]? = some x := by rfl) (hj : X.N[j]? = some y := by rfl) (hij : i ≠ j := by decide)
    (hx : X.env.scope.names.lookup x = some .local := by rfl) (hy : X.env.scope.names.lookup y = some .local := by rfl)
    (hw : swappedStores [.Tuple [.Name x px, .Name y py] kt pt] (.Tuple [a, b] k2 pt2) X.env = pure (some [x, y]) := by rfl)
    (hs : swapsWithSole [.Tuple [.Name x px, .Name y py] kt pt] (.Tuple [a, b] k2 pt2) pos.line X.env = pure false := by rfl) :
    DSx X E (.Assign [.Tuple [.Name x px, .Name y py] kt pt] (.Tuple [a, b] k2 pt2) pos) (dPar i j dr) := by
  obtain ⟨t, p, s⟩ := h
  refine ⟨_, ps_par hc hN hi hj hij hx hy p hw hs, fun S0 sl M σ H Dd Dn k l h => s S0 sl M σ H _ _ _ k (l.xl k) h fun ds M1 vs H1 m1 x1 r1 q1 => ?_⟩
  obtain ⟨v, w, rfl, q⟩ := q1
  cases r1 with
  | cons ra rb =>
    cases rb with
    | cons rb rc =>
      cases rc
      exact ⟨_, _, rfl, l.nx _ M1 _ H1 (((k.ext m1 x1).set i ra).set j rb) x1 q⟩
/-- x op= e -/
def dAug (i : Nat) (rd : D → D → Mem → DK → Prop) (da : DE) : DS := fun Dd sl M => ∃ x, sl[i]? = some (some x) ∧ da sl M (Dd.ex sl) fun y M1 => vw M1 x fun x' => vw M1 y fun y' => rd x' y' M1 fun z M2 => Dd.nx (sl.set i (some z)) M2
theorem ds_aug {i : Nat} {x : Str} {op : Operator} {r : R2} {rd : D → D → Mem → DK → Prop} {pos' : Pos} (hN : X.N.Nodup) (ho : OpR X (inplaceOp op) r) (hr : SimV2 X.K r rd) (h : DEx X E a da) (hi : X.N[i]? = some x := by rfl) (hx : Loc X.env.scope x := by first | exact .inl rfl | exact .inr rfl)
    (hf : X.fn x = true ∨ X.env.scope.names.lookup x = some .local := by first | exact .inl rfl | exact .inr rfl) : DSx X E (.AugAssign (.Name x pos') op a pos) (dAug i rd da) := by
  obtain ⟨t, p, s⟩ := h
  refine ⟨_, ps_aug (ti := r) hN hi hx p ho hf, fun S0 sl M σ H Dd Dn k l h => ?_⟩
  obtain ⟨d, e1, h⟩ := h
  obtain ⟨v, e2, rv⟩ := k.sl i d e1
  refine ⟨v, e2, s S0 sl M σ H _ _ _ k (l.xl k) h fun y M1 w H1 m1 x1 r1 q1 => ?_⟩
  obtain ⟨w1, q2, t1⟩ := vw_of m1 (rv.ext x1) q1
  obtain ⟨w2, q3, t2⟩ := vw_of m1 r1 q2
  refine hr S0 M1 H1 v w w1 w2 _ _ m1 t1 t2 q3 fun z M2 u H2 m2 x2 r2 q4 => ?_
  exact l.nx _ M2 _ H2 ((k.ext m2 (x1.trans x2)).set i r2) (x1.trans x2) q4
def rIAddA : R2 := fun x y H Q => rI0 (fun i j => .int (i + j)) x y H Q ∨ ∃ i j, x = .str i ∧ y = .str j ∧ i.length + j.length ≤ sizeLine ∧ Q (.str (i ++ j)) H
def iaddD : D → D → Mem → DK → Prop
  | .int i, .int j, M, Q => Q (.int (i + j)) M
  | .str x, .str y, M, Q => x.length + y.length ≤ sizeLine ∧ Q (.str (x ++ y)) M
  | _, _, _, _ => False
theorem op_iaddA : OpR X (inplaceOp .Add) rIAddA := iop_add.or iop_add_str
theorem sv_iadd : SimV2 K rIAddA iaddD := by
  intro S0 M H x y dx dy Q QD m rx ry h l
  cases dx with
  | int i =>
    cases dy with
    | int j => cases rx.int_inv; cases ry.int_inv; exact .inl ⟨i, j, rfl, rfl, l.now m (.int _) h⟩
    | _ => exact h.elim
  | str i =>
    cases dy with
    | str j => cases rx.str_inv; cases ry.str_inv; exact .inr ⟨i, j, rfl, rfl, h.1, l.now m (.str _) h.2⟩
    | _ => exact h.elim
  | _ => exact h.elim

/-! ### owned objects changed -/
/-- what the owned object x is, and how it is written -/
def mutN (M : Mem) (x : D) (f : N → (N → Mem) → Prop) : Prop := match x with
  | .ref p => ∃ (k : Nat) (n : N), M[k]? = some (p, n) ∧ f n fun n' => M.set k (p, n')
  | _ => False
/-- x[i] = v -/
def setD (n : N) (i v : D) (wr : N → Mem) (Q : Mem → Prop) : Prop := match n, i with
  | .lst xs, .int k => ∃ j, ixN xs.length k = some j ∧ Q (wr (.lst (xs.set j v)))
  | .dic kvs, .int k => kvs.length < sizeLine ∧ Q (wr (.dic (if kvs.any fun kv => decide (kv.1 = Sum.inl k) then kvs.map fun kv => if kv.1 = Sum.inl k then (kv.1, v) else kv else kvs ++ [(Sum.inl k, v)])))
  | .dic kvs, .str k => kvs.length < sizeLine ∧ Q (wr (.dic (if kvs.any fun kv => decide (kv.1 = Sum.inr k) then kvs.map fun kv => if kv.1 = Sum.inr k then (kv.1, v) else kv else kvs ++ [(Sum.inr k, v)])))
  | _, _ => False
def dSetIx (dv da di : DE) : DS := fun Dd sl M => dv sl M (Dd.ex sl) fun v M1 => da sl M1 (Dd.ex sl) fun x M2 => di sl M2 (Dd.ex sl) fun i M3 => mutN M3 x fun n wr => setD n i v wr fun M' => Dd.nx sl M'
def rSetA : V → V → V → Hp → (Hp → Prop) → Prop := fun o i v H Q => rSetL o i v H Q ∨ ∃ a H', o = .ref a ∧ DPut H a i v H' ∧ Q H'
theorem set_all (hu : X.A.units + 1 < cLine) : PSet X rSetA := by
  intro pins s σ H o i v ov iv u Q I ro ri rv q
  rcases q with q | ⟨a, H', rfl, g, q⟩
  · exact set_list pins s σ H o i v ov iv u Q I ro ri rv q
  · cases ro
    exact d_setItem hu I g ri rv fun s' I' => ⟨H', I', q⟩
def putD (kvs : List (Key × D)) (k : Key) (v : D) : List (Key × D) := if kvs.any fun kv => decide (kv.1 = k) then kvs.map fun kv => if kv.1 = k then (kv.1, v) else kv else kvs ++ [(k, v)]
theorem RepsK.any {S : Mark} {H : Hp} {k : Key} : ∀ {kvs : List (Key × D)} {ws : List (Key × V)}, RepsK K S H ws kvs → (ws.any fun kv => decide (kv.1 = k)) = kvs.any fun kv => decide (kv.1 = k) := by
  intro kvs
  induction kvs with
  | nil => intro ws h; cases h; rfl
  | cons p r ih =>
    intro ws h
    cases h with
    | cons a b => rw [List.any_cons, List.any_cons, ih b]
theorem RepsK.repl {S : Mark} {H : Hp} {k : Key} {v : V} {d : D} (rv : Rep K S H v d) : ∀ {kvs : List (Key × D)} {ws : List (Key × V)}, RepsK K S H ws kvs → RepsK K S H (ws.map fun kv => if kv.1 = k then (kv.1, v) else kv) (kvs.map fun kv => if kv.1 = k then (kv.1, d) else kv) := by
  intro kvs
  induction kvs with
  | nil => intro ws h; cases h; exact .nil
  | cons p r ih =>
    intro ws h
    cases h with
    | cons a b =>
      rename_i k' v' ws' d'
      rw [List.map_cons, List.map_cons]
      by_cases z : k' = k
      · rw [if_pos z, if_pos z]; exact .cons rv (ih b)
      · rw [if_neg z, if_neg z]; exact .cons a (ih b)
theorem RepsK.snoc {S : Mark} {H : Hp} {k : Key} {v : V} {d : D} (rv : Rep K S H v d) : ∀ {kvs : List (Key × D)} {ws : List (Key × V)}, RepsK K S H ws kvs → RepsK K S H (ws ++ [(k, v)]) (kvs ++ [(k, d)]) := by
  intro kvs
  induction kvs with
  | nil => intro ws h; cases h; exact .cons rv .nil
  | cons p r ih =>
    intro ws h
    cases h with
    | cons a b => exact .cons a (ih b)
theorem RepsK.put {S : Mark} {H : Hp} {k : Key} {v : V} {d : D} (rv : Rep K S H v d) {kvs : List (Key × D)} {ws : List (Key × V)} (h : RepsK K S H ws kvs) : RepsK K S H (putK ws k v) (putD kvs k d) := by
  unfold putK putD
  rw [h.any]
  split
  · exact h.repl rv
  · exact h.snoc rv
theorem ds_setIx {o i : Expr} {pos' : Pos} {dv di : DE} (hu : X.A.units + 64 < cLine) (hv : DEx X E a dv) (ho : DEx X E o da) (hi : DEx X E i di) (hs : swapsWithSole [.Subscript o i pos'] a pos.line X.env = pure false := by rfl) (hw : swappedStores [.Subscript o i pos'] a X.env = pure none := by rfl)
    (ha : ∀ v, assign (.Subscript o i pos') X.env v = (do
      let ov ← holding [v] (eval o X.env)
      let iv ← holding [v, ov] (eval i X.env)
      standAt pos'
      holding [v, ov, iv] (setItem ov iv v)
      release [v, ov, iv] []) := by intro _; rfl) (h1 : (assignEach [.Subscript o i pos'] X.env).map (·.2) = [assign (.Subscript o i pos') X.env] := by rfl) :
    DSx X E (.Assign [.Subscript o i pos'] a pos) (dSetIx dv da di) := by
  obtain ⟨tv, p1, s1⟩ := hv
  obtain ⟨to, p2, s2⟩ := ho
  obtain ⟨ti, p3, s3⟩ := hi
  refine ⟨_, ps_asg p1 (pg_sub p2 p3 (set_all (by omega)) ha) hs hw h1, fun S0 sl M σ H Dd Dn k l h => ?_⟩
  refine s1 S0 sl M σ H _ _ _ k (l.xl k) h fun v M1 v' H1 m1 x1 r1 q1 => ?_
  have k1 := k.ext m1 x1
  refine s2 S0 sl M1 σ H1 _ _ _ k1 ((l.ext x1).xl k1) q1 fun x M2 x' H2 m2 x2 r2 q2 => ?_
  have x12 := x1.trans x2
  have k2 := k.ext m2 x12
  refine s3 S0 sl M2 σ H2 _ _ _ k2 ((l.ext x12).xl k2) q2 fun i M3 i' H3 m3 x3 r3 q3 => ?_
  have x13 := x12.trans x3
  have rv := r1.ext (x2.trans x3)
  have rx := r2.ext x3
  cases x with
  | ref p =>
    cases rx
    obtain ⟨j, n, e, q⟩ := q3
    have g := m3.at_ _ (List.mem_of_getElem? e)
    have fin : ∀ (n' : N) (ob : HO), NodeAt X.K (SM S0 M3) (upd H3 p ob) p n' → Dd.nx sl (M3.set j (p, n')) → Dn.nx σ (upd H3 p ob) := fun n' ob g' q' =>
      l.nx sl _ σ _ (k.ext (m3.write e g') (x13.trans (.write e))) (x13.trans (.write e)) q'
    cases n with
    | lst xs =>
      cases i with
      | int z =>
        cases r3
        obtain ⟨vs, h1, h2⟩ := g
        obtain ⟨t, e2, q⟩ := q
        refine .inl ⟨p, vs, z, t, rfl, rfl, h1, by rw [h2.length]; exact e2, fin (.lst (xs.set t v)) _ ⟨_, upd_same, Reps.mono (kp_write e _) _ _ (h2.set t rv)⟩ q⟩
      | _ => exact q.elim
    | dic kvs =>
      obtain ⟨ws, h1, h2⟩ := g
      cases i with
      | int z =>
        cases r3
        refine .inr ⟨p, _, rfl, DPut.k (k := Sum.inl z) h1 (by rw [h2.length]; exact q.1), fin (.dic (putD kvs (Sum.inl z) v)) _ ⟨_, upd_same, RepsK.mono (kp_write e _) _ _ (h2.put (k := Sum.inl z) rv)⟩ q.2⟩
      | str z =>
        cases r3
        refine .inr ⟨p, _, rfl, DPut.k (k := Sum.inr z) h1 (by rw [h2.length]; exact q.1), fin (.dic (putD kvs (Sum.inr z) v)) _ ⟨_, upd_same, RepsK.mono (kp_write e _) _ _ (h2.put (k := Sum.inr z) rv)⟩ q.2⟩
      | _ => exact q.elim
    | _ => exact q.elim
  | _ => exact q3.elim
end
end OD

/-! OD7: methods of lists, loops, comprehensions, defs. -/
namespace OD
open PySem PySem.Spec L2

section
variable {X : Cx} {E : L2.St → XK} {K : PySem.W.Frag} {a b c : Expr} {es : List Expr} {pos : Pos} {da db dc : DE} {dr : DA} {dt : DT} {sts : List Stmt} {td ud : DS}

/-! ### methods of lists -/
/-- r: the method's rule by values; f: what it does to the items -/
def SimM (K : PySem.W.Frag) (r : V → List V → Hp → VK → Prop) (f : List D → List D → (List D → Mem) → DK → Prop) : Prop := ∀ (S0 : Mark) (M : Mem) (H : Hp) (p : Addr) (vs : List V) (ds : List D) (j : Nat) (xs : List D) (Q : VK) (QD : DK),
  MemOk K S0 M H → RepTs K (SM S0 M) H vs ds → M[j]? = some (p, .lst xs) → f xs ds (fun ys => M.set j (p, .lst ys)) QD → Lk K S0 M H Q QD → r (.ref p) vs H Q
def isLst (M : Mem) (x : D) : Prop := match x with
  | .ref p => ∃ (k : Nat) (xs : List D), M[k]? = some (p, .lst xs)
  | _ => False
def mutL (M : Mem) (x : D) (f : List D → (List D → Mem) → Prop) : Prop := match x with
  | .ref p => ∃ (k : Nat) (xs : List D), M[k]? = some (p, .lst xs) ∧ f xs fun ys => M.set k (p, .lst ys)
  | _ => False
def dMth (f : List D → List D → (List D → Mem) → DK → Prop) (da : DE) (dr : DA) : DE := fun sl M ED Q => da sl M ED fun x M1 => isLst M1 x ∧ dr sl M1 ED fun ds M2 => mutL M2 x fun xs wr => vws M2 ds fun ws => f xs ws wr Q
theorem de_mth {name : Str} {id : String} {r : V → List V → Hp → VK → Prop} {f : List D → List D → (List D → Mem) → DK → Prop} {e o : Expr} {apos cpos : Pos} (slot : PySem.Slot "list" name id) (hty : typeOf (.builtin id) = pure (.type "method_descriptor")) (hm : MtR X id r) (hs : SimM X.K r f)
    (ho : DEx X E o da) (ha : DAx X E (e :: es) dr)
    (hbase : attributeBase o name X.env (eval o X.env) = eval o X.env := by rfl)
    (hfew : ((backTo cpos (starEach (e :: es) X.env)).all (fun x => !x.1) && (backToKw cpos (keywordEach [] X.env)).all (fun x => x.1.isSome)
      && decide ((e :: es).length + ([] : List Keyword).length + (if ([] : List Keyword).isEmpty then 0 else 1) < 30)) = true := by rfl)
    (hline : (apos.endLine == cpos.line) = true := by rfl) (hst : starEach (e :: es) X.env = (false, eval e X.env) :: starEach es X.env := by rfl) (hplain : (backTo cpos (starEach es X.env)).any (·.1) = false := by rfl) :
    DEx X E (.Call (.Attribute o name apos) (e :: es) [] cpos) (dMth f da dr) := by
  obtain ⟨to, p1, s1⟩ := ho
  obtain ⟨ta, p2, s2⟩ := ha
  refine ⟨_, pe_bm PySem.F.plainAttrs_list slot hty hm p1 p2 hbase hfew hline hst hplain, fun S0 sl M σ H Q QD ED k xl hd l => ?_⟩
  refine s1 S0 sl M σ H _ _ ED k xl hd fun x M1 v H1 m1 x1 r1 q1 => ?_
  obtain ⟨h1, q1⟩ := q1
  cases x with
  | ref p =>
    cases r1
    obtain ⟨j, xs, ej⟩ := h1
    obtain ⟨vs, g1, g2⟩ := m1.at_ _ (List.mem_of_getElem? ej)
    refine ⟨.inl ⟨rfl, vs, .inl (.inl g1)⟩, s2 S0 sl M1 σ H1 _ _ ED (k.ext m1 x1) (xl.ext x1) q1 fun ds M2 us H2 m2 x2 r2 q2 => ?_⟩
    obtain ⟨j2, ys, e2, q3⟩ := q2
    obtain ⟨ws, q4, r4⟩ := vws_of m2 r2 q3
    exact hs S0 M2 H2 p us ws j2 ys Q QD m2 r4 e2 q4 (l.ext (x1.trans x2))
  | _ => exact h1.elim
theorem de_mth0 {name : Str} {id : String} {r : V → List V → Hp → VK → Prop} {f : List D → List D → (List D → Mem) → DK → Prop} {o : Expr} {apos cpos : Pos} (slot : PySem.Slot "list" name id) (hty : typeOf (.builtin id) = pure (.type "method_descriptor")) (hm : MtR X id r) (hs : SimM X.K r f)
    (ho : DEx X E o da) (hbase : attributeBase o name X.env (eval o X.env) = eval o X.env := by rfl) (hline : (apos.endLine == cpos.line) = true := by rfl) :
    DEx X E (.Call (.Attribute o name apos) [] [] cpos) (dMth f da dNil) := by
  obtain ⟨to, p1, s1⟩ := ho
  refine ⟨_, pe_bm0 PySem.F.plainAttrs_list slot hty hm p1 hbase hline, fun S0 sl M σ H Q QD ED k xl hd l => ?_⟩
  refine s1 S0 sl M σ H _ _ ED k xl hd fun x M1 v H1 m1 x1 r1 q1 => ?_
  obtain ⟨h1, q1⟩ := q1
  cases x with
  | ref p =>
    cases r1
    obtain ⟨j, xs, ej⟩ := h1
    obtain ⟨vs, g1, g2⟩ := m1.at_ _ (List.mem_of_getElem? ej)
    obtain ⟨j2, ys, e2, q3⟩ := q1
    exact ⟨.inl ⟨rfl, vs, .inl (.inl g1)⟩, hs S0 M1 H1 p [] [] j2 ys Q QD m1 .nil e2 q3 (l.ext x1)⟩
  | _ => exact h1.elim
section
variable {S0 : Mark} {M : Mem} {H : Hp} {Q : VK} {QD : DK}
/-- an owned list is written -/
theorem wr_lst {j : Nat} {p : Addr} {xs ys : List D} {ws : List V} {d : D} {v : V} (m : MemOk K S0 M H) (e : M[j]? = some (p, .lst xs)) (r : Reps K (SM S0 M) H ws ys) (rv : Rep K (SM S0 M) H v d) (h : QD d (M.set j (p, .lst ys))) (l : Lk K S0 M H Q QD) : Q v (upd H p (.lst ws)) := by
  have x : Ext M H (M.set j (p, .lst ys)) (upd H p (.lst ws)) := .write e
  exact l d _ v _ (m.write (n' := .lst ys) e ⟨ws, upd_same, Reps.mono (kp_write e _) _ _ r⟩) x (rv.ext x) h
end
theorem RepT.rep_ne {S : Mark} {H : Hp} {v : V} {d : D} (r : RepT K S H v d) (h : match d with | .lst _ => False | .dic _ => False | .obj _ _ => False | _ => True) : Rep K S H v d := by
  cases r with
  | imm r => exact r
  | lst _ _ => exact h.elim
  | dic _ _ => exact h.elim
  | obj _ _ => exact h.elim
/-! append takes its item unlooked-at -/
def dApp (da db : DE) : DE := fun sl M ED Q => da sl M ED fun x M1 => isLst M1 x ∧ db sl M1 ED fun d M2 => mutL M2 x fun xs wr => xs.length < sizeLine ∧ Q .non (wr (xs ++ [d]))
theorem de_app {e o : Expr} {apos cpos : Pos} (ho : DEx X E o da) (ha : DEx X E e db)
    (hbase : attributeBase o "append" X.env (eval o X.env) = eval o X.env := by rfl)
    (hfew : ((backTo cpos (starEach (e :: []) X.env)).all (fun x => !x.1) && (backToKw cpos (keywordEach [] X.env)).all (fun x => x.1.isSome)
      && decide ((e :: []).length + ([] : List Keyword).length + (if ([] : List Keyword).isEmpty then 0 else 1) < 30)) = true := by rfl)
    (hline : (apos.endLine == cpos.line) = true := by rfl) (hst : starEach (e :: []) X.env = (false, eval e X.env) :: starEach [] X.env := by rfl) (hplain : (backTo cpos (starEach [] X.env)).any (·.1) = false := by rfl) :
    DEx X E (.Call (.Attribute o "append" apos) [e] [] cpos) (dApp da db) := by
  obtain ⟨to, p1, s1⟩ := ho
  obtain ⟨ta, p2, s2⟩ := ha
  refine ⟨_, pe_bm PySem.F.plainAttrs_list PySem.F.slot_list_append PySem.F.type_list_append mt_append p1 (pa_cons p2 pa_nil hst) hbase hfew hline hst hplain, fun S0 sl M σ H Q QD ED k xl hd l => ?_⟩
  refine s1 S0 sl M σ H _ _ ED k xl hd fun x M1 v H1 m1 x1 r1 q1 => ?_
  obtain ⟨h1, q1⟩ := q1
  cases x with
  | ref p =>
    cases r1
    obtain ⟨j, xs, ej⟩ := h1
    obtain ⟨vs, g1, g2⟩ := m1.at_ _ (List.mem_of_getElem? ej)
    refine ⟨.inl ⟨rfl, vs, .inl (.inl g1)⟩, s2 S0 sl M1 σ H1 _ _ ED (k.ext m1 x1) (xl.ext x1) q1 fun d M2 u H2 m2 x2 r2 q2 => ?_⟩
    obtain ⟨j2, ys, e2, q3, q4⟩ := q2
    obtain ⟨ws, g3, g4⟩ := m2.at_ _ (List.mem_of_getElem? e2)
    exact ⟨p, ws, u, rfl, rfl, g3, by rw [g4.length]; exact q3, wr_lst m2 e2 (g4.append (.one r2)) .non q4 (l.ext (x1.trans x2))⟩
  | _ => exact h1.elim
def popF : List D → List D → (List D → Mem) → DK → Prop := fun xs ds wr Q => match ds with
  | [] => ∃ d, xs[xs.length - 1]? = some d ∧ Q d (wr xs.dropLast)
  | _ => False
theorem sm_pop : SimM K rPop popF := by
  intro S0 M H p vs ds j xs Q QD m rs e h l
  cases rs with
  | nil =>
    obtain ⟨d, e1, q⟩ := h
    obtain ⟨ws, g1, g2⟩ := m.at_ _ (List.mem_of_getElem? e)
    obtain ⟨v, e2, rv⟩ := g2.get e1
    exact ⟨p, ws, v, rfl, rfl, g1, by rw [g2.length]; exact e2, wr_lst m e g2.dropLast rv q l⟩
  | cons _ _ => exact h.elim
def popAtF : List D → List D → (List D → Mem) → DK → Prop := fun xs ds wr Q => match ds with
  | [.int i] => -(2 ^ 63) ≤ i ∧ i < 2 ^ 63 ∧ ∃ k d, seqIndex? i xs.length = some k ∧ xs[k]? = some d ∧ Q d (wr (xs.eraseIdx k))
  | _ => False
theorem sm_popAt : SimM K rPopAt popAtF := by
  intro S0 M H p vs ds j xs Q QD m rs e h l
  cases rs with
  | nil => exact h.elim
  | cons r rs =>
    rename_i v vs d ds
    cases d with
    | int i =>
      cases rs with
      | nil =>
        cases r.int_inv
        obtain ⟨h1, h2, t, d, e1, e3, q⟩ := h
        obtain ⟨ws, g1, g2⟩ := m.at_ _ (List.mem_of_getElem? e)
        obtain ⟨v, e2, rv⟩ := g2.get e3
        exact ⟨p, ws, i, t, v, rfl, rfl, g1, h1, h2, by rw [g2.length]; exact e1, e2, wr_lst m e (g2.eraseIdx t) rv q l⟩
      | cons _ _ => exact h.elim
    | _ => exact h.elim

/-! ### what a loop walks -/
structure Itm where
  n : Nat
  at_ : Nat → D
  gd : Mem → Prop
abbrev DI := Slots → Mem → XD → (Itm → Mem → Prop) → Prop
/-- a mark that has new addresses alone besides -/
def Mk (S0 : Mark) (H : Hp) (S1 : Mark) : Prop := (∀ a, S0 a → S1 a) ∧ ∀ a, S1 a → S0 a ∨ H a = none
theorem Mk.refl (S0 : Mark) (H : Hp) : Mk S0 H S0 := ⟨fun _ h => h, fun _ h => .inl h⟩
theorem Ext.kpM {S0 S1 : Mark} {M M' : Mem} {H H' : Hp} (x : Ext M H M' H') (k : Mk S0 H S1) : Kp (SM S0 M) H (SM S1 M') H' := fun b o e n => by
  refine ⟨x.keep b o e fun h => n (.inr h), fun h => ?_⟩
  rcases h with h | h
  · rcases k.2 b h with h | h
    · exact n (.inl h)
    · rw [e] at h; cases h
  · rcases x.new b h with h | h
    · exact n (.inr h)
    · rw [e] at h; cases h
def ItRep (K : PySem.W.Frag) (S0 : Mark) (M : Mem) (H : Hp) (J : It) (it : Itm) : Prop := ∀ (S1 : Mark) (M' : Mem) (H' : Hp), Mk S0 H S1 → MemOk K S1 M' H' → Ext M H M' H' → it.gd M' →
  (∀ i, i < it.n → J.go i H' ∧ ∀ x H'', J.yld i H' x H'' → MemOk K S1 M' H'' ∧ Ext M' H' M' H'' ∧ Rep K (SM S1 M') H'' x (it.at_ i)) ∧ J.stop it.n H'
def SimI (K : PySem.W.Frag) (E : L2.St → XK) (wi : TI) (di : DI) : Prop := ∀ (S0 : Mark) (sl : Slots) (M : Mem) (σ : L2.St) (H : Hp) (R : It → Hp → Prop) (RD : Itm → Mem → Prop) (ED : XD),
  Ok K S0 sl M σ H → XL K S0 M H (E σ) ED → di sl M ED RD → (∀ it M' J H', MemOk K S0 M' H' → Ext M H M' H' → ItRep K S0 M' H' J it → RD it M' → R J H') → wi σ H R
structure DIx (X : Cx) (E : L2.St → XK) (tg iter : Expr) (di : DI) : Prop where
  ex : ∃ wi, PI X tg iter wi ∧ SimI X.K E wi di
def itSeq (xs : List D) (gd : Mem → Prop) : Itm := ⟨xs.length, fun i => (xs[i]?).getD .non, gd⟩
def itRange (lo c : Int) (n : Nat) : Itm := ⟨n, fun i => .int (lo + (i : Nat) * c), fun _ => True⟩
def itStr (z : Str) : Itm := ⟨z.cps.size, fun i => .str ⟨#[(z.cps[i]?).getD 0]⟩, fun _ => True⟩

/-- what is looked at, and while what it stands -/
def vwG (M : Mem) (d : D) (P : D → (Mem → Prop) → Prop) : Prop := match d with
  | .ref p => ∃ (k : Nat) (n : N), M[k]? = some (p, n) ∧ P n.toD fun M' => M'[k]? = some (p, n)
  | d => P d fun _ => True
def seqI (w : D) (gd : Mem → Prop) (M : Mem) (RD : Itm → Mem → Prop) : Prop := match w with
  | .lst xs => RD (itSeq xs gd) M
  | .tup xs => RD (itSeq xs gd) M
  | .scr ns => RD (itSeq (ns.map .int) gd) M
  | .str z => RD (itStr z) M
  | _ => False
def diSeq (da : DE) : DI := fun sl M ED RD => da sl M ED fun x M1 => vwG M1 x fun w gd => seqI w gd M1 RD
def iVal (K : PySem.W.Frag) (x : V) (H : Hp) (R : It → Hp → Prop) : Prop := (∃ a xs, x = .ref a ∧ SqL K H a xs ∧ R (Itl K a) H) ∨ (∃ a xs, x = .ref a ∧ SqT K H a xs ∧ R (Itt K a) H) ∨ ∃ z, x = .str z ∧ R (Its z) H
def iAny (K : PySem.W.Frag) (te : TE) : TI := fun σ H R => te σ H fun x H1 => iVal K x H1 R
theorem pi_val {tg : Expr} {pins : List (Addr × Obj)} {σ : L2.St} {H : Hp} {s : Shared} {x : V} {v : Value} {R : It → Hp → Prop} (I : Inv X pins σ H s) (r : RelV x v) (q : iVal X.K x H R) : wpAny (model X.prog X.w) X.A (pyIter v) (PIE X pins σ tg R) X.xe s := by
  rcases q with ⟨a, xs, rfl, hq, q⟩ | ⟨a, xs, rfl, hq, q⟩ | ⟨z, rfl, q⟩
  · cases r
    obtain ⟨its, rv, p, hz⟩ := I.list hq
    exact wpAny_pyIter_list p.isList (pi_one (tk := s.toks) I _ (turn_list a _) ⟨_, Heap.get?_push_size _ rfl, rfl, rfl⟩ q)
  · cases r
    obtain ⟨its, rv, p, hz⟩ := I.tuple hq
    exact wpAny_pyIter_tuple (show s.heap.IsTuple a its.toArray from p) (pi_one (tk := s.toks) I _ (turn_tuple a _) ⟨_, Heap.get?_push_size _ rfl, rfl, rfl⟩ q)
  · obtain ⟨t, rfl⟩ := r
    cases h : z.cps.all (· < 128) with
    | true => exact wpAny_pyIter_ascii h (pi_one (tk := s.toks) I _ (turn_str _ z t "str_ascii_iterator" (.inl rfl)) ⟨_, Heap.get?_push_size _ rfl, rfl, rfl⟩ q)
    | false => exact wpAny_pyIter_wide h (pi_one (tk := s.toks) I _ (turn_str _ z t "str_iterator" (.inr rfl)) ⟨_, Heap.get?_push_size _ rfl, rfl, rfl⟩ q)
theorem pi_any {tg e : Expr} {te : TE} (he : PE X e te) : PI X tg e (iAny X.K te) :=
  ⟨fun pins s σ H R I h => thn (he.run pins s σ H _ I h) fun _ s1 ⟨_, _, I1, r1, q⟩ => pi_val I1 r1 q⟩
theorem itRep_list {S0 : Mark} {M : Mem} {H : Hp} {a : Addr} {xs : List D} {gd : Mem → Prop} (hg : ∀ (S1 : Mark) (M' : Mem) (H' : Hp), Mk S0 H S1 → MemOk K S1 M' H' → Ext M H M' H' → gd M' → ∃ vs, SqL K H' a vs ∧ Reps K (SM S1 M') H' vs xs) : ItRep K S0 M H (Itl K a) (itSeq xs gd) := by
  intro S1 M' H' mk m x g
  obtain ⟨vs, h1, h2⟩ := hg S1 M' H' mk m x g
  refine ⟨fun i hi => ?_, vs, h1, by rw [h2.length]; exact Nat.le_refl _⟩
  have hi' : i < xs.length := hi
  obtain ⟨v, e, r⟩ := h2.get (List.getElem?_eq_getElem hi')
  refine ⟨⟨vs, v, h1, e⟩, fun y H'' hy => ?_⟩
  obtain ⟨rfl, f⟩ := hy
  refine ⟨m, .refl _ _, ?_⟩
  have := f vs h1
  rw [e] at this
  cases this
  show Rep K _ _ _ ((xs[i]?).getD .non)
  rw [List.getElem?_eq_getElem hi']
  exact r
theorem itRep_tup {S0 : Mark} {M : Mem} {H : Hp} {a : Addr} {xs : List D} {gd : Mem → Prop} (hg : ∀ (S1 : Mark) (M' : Mem) (H' : Hp), Mk S0 H S1 → MemOk K S1 M' H' → Ext M H M' H' → gd M' → ∃ vs, SqT K H' a vs ∧ Reps K (SM S1 M') H' vs xs) : ItRep K S0 M H (Itt K a) (itSeq xs gd) := by
  intro S1 M' H' mk m x g
  obtain ⟨vs, h1, h2⟩ := hg S1 M' H' mk m x g
  refine ⟨fun i hi => ?_, vs, h1, by rw [h2.length]; exact Nat.le_refl _⟩
  have hi' : i < xs.length := hi
  obtain ⟨v, e, r⟩ := h2.get (List.getElem?_eq_getElem hi')
  refine ⟨⟨vs, v, h1, e⟩, fun y H'' hy => ?_⟩
  obtain ⟨rfl, f⟩ := hy
  refine ⟨m, .refl _ _, ?_⟩
  have := f vs h1
  rw [e] at this
  cases this
  show Rep K _ _ _ ((xs[i]?).getD .non)
  rw [List.getElem?_eq_getElem hi']
  exact r
theorem di_seq {tg : Expr} (h : DEx X E a da) : DIx X E tg a (diSeq da) := by
  obtain ⟨t, p, s⟩ := h
  refine ⟨_, pi_any p, fun S0 sl M σ H R RD ED k xl hd l => s S0 sl M σ H _ _ ED k xl hd fun d M1 v H1 m1 x1 r1 q1 => ?_⟩
  have imm : ∀ w, Rep X.K (SM S0 M1) H1 v w → seqI w (fun _ => True) M1 RD → iVal X.K v H1 R := fun w r q => by
    cases w with
    | lst xs =>
      cases r with
      | lst h1 h2 h3 =>
        exact .inl ⟨_, _, rfl, .inl (.inl h2), l _ M1 _ H1 m1 x1 (itRep_list fun S1 M' H' mk m x g => ⟨_, .inl (.inl (x.keep _ _ h2 fun z => h1 (.inr z))), Reps.mono (x.kpM mk) _ _ h3⟩) q⟩
    | scr ns =>
      cases r with
      | scr h1 =>
        exact .inl ⟨_, _, rfl, h1.sq, l _ M1 _ H1 m1 x1 (itRep_list fun S1 M' H' mk m x g => ⟨_, (h1.mono (x.kpM mk)).sq, .ints _⟩) q⟩
    | tup xs =>
      cases r with
      | tup h1 h3 =>
        exact .inr (.inl ⟨_, _, rfl, h1.sq, l _ M1 _ H1 m1 x1 (itRep_tup fun S1 M' H' mk m x g => ⟨_, (h1.mono (x.kpM mk)).sq, Reps.mono (x.kpM mk) _ _ h3⟩) q⟩)
    | str z =>
      cases r
      refine .inr (.inr ⟨z, rfl, l (itStr z) M1 _ H1 m1 x1 (fun S1 M' H' mk m x g => ⟨fun i hi => ⟨hi, fun y H'' hy => ?_⟩, Nat.le_refl _⟩) q⟩)
      obtain ⟨rfl, c, e, rfl⟩ := hy
      refine ⟨m, .refl _ _, ?_⟩
      show Rep _ _ _ _ (.str ⟨#[(z.cps[i]?).getD 0]⟩)
      rw [e]
      exact .str _
    | _ => exact q.elim
  cases d with
  | ref p =>
    obtain ⟨j, n, e, q⟩ := q1
    cases r1
    obtain g := m1.at_ _ (List.mem_of_getElem? e)
    cases n with
    | lst xs =>
      obtain ⟨vs, h1, h2⟩ := g
      refine .inl ⟨p, vs, rfl, .inl (.inl h1), l _ M1 _ H1 m1 x1 (itRep_list fun S1 M' H' mk m x gd => ?_) q⟩
      obtain ⟨vs', h1', h2'⟩ := m.at_ _ (List.mem_of_getElem? gd)
      exact ⟨vs', .inl (.inl h1'), h2'⟩
    | _ => exact q.elim
  | _ => exact imm _ r1 q1
end
end OD

/-! OD8: for, while, comprehensions; a def keeps its promise. -/
namespace OD
open PySem PySem.Spec L2

section
variable {X : Cx} {E : L2.St → XK} {K : PySem.W.Frag} {a b c : Expr} {es : List Expr} {pos p : Pos} {da db dc : DE} {dr : DA} {dt : DT} {sts : List Stmt} {td ud : DS} {tg iter : Expr}

/-! ### range -/
def diRange1 (dr : DA) : DI := fun sl M ED RD => dr sl M ED fun ds M1 => ∃ j : Int, ds = [.int j] ∧ -(2 ^ 62) ≤ j ∧ j < 2 ^ 62 ∧ RD (itRange 0 1 j.toNat) M1
def diRange2 (dr : DA) : DI := fun sl M ED RD => dr sl M ED fun ds M1 => ∃ i j : Int, ds = [.int i, .int j] ∧ (-(2 ^ 62) ≤ i ∧ i < 2 ^ 62 ∧ -(2 ^ 62) ≤ j ∧ j < 2 ^ 62) ∧ RD (itRange i 1 (j - i).toNat) M1
def diRange3 (dr : DA) : DI := fun sl M ED RD => dr sl M ED fun ds M1 => ∃ (i j c : Int) (n : Nat), ds = [.int i, .int j, .int c] ∧ RgC i j c n ∧ RD (itRange i c n) M1
theorem itRep_r {S0 : Mark} {M : Mem} {H : Hp} {lo : Int} {n : Nat} : ItRep K S0 M H (Itr lo n) (itRange lo 1 n) := fun S1 M' H' mk m x g => ⟨fun i hi => ⟨hi, fun y H'' hy => by
  obtain ⟨rfl, rfl⟩ := hy
  refine ⟨m, .refl _ _, ?_⟩
  show Rep _ _ _ _ (.int (lo + (i : Nat) * 1))
  rw [Int.mul_one]
  exact .int _⟩, Nat.le_refl _⟩
theorem itRep_c {S0 : Mark} {M : Mem} {H : Hp} {lo c : Int} {n : Nat} : ItRep K S0 M H (Itc lo c n) (itRange lo c n) := fun S1 M' H' mk m x g => ⟨fun i hi => ⟨hi, fun y H'' hy => by
  obtain ⟨rfl, rfl⟩ := hy
  exact ⟨m, .refl _ _, .int _⟩⟩, Nat.le_refl _⟩
theorem di_range1 (hm : X.mg "range" = none) (h : DAx X E [a] dr) (hg : Gl X "range" := by rfl) (hs : starEach [a] X.env = [(false, eval a X.env)] := by rfl) : DIx X E tg (.Call (.Name "range" p) [a] [] pos) (diRange1 dr) := by
  obtain ⟨t, q, s⟩ := h
  refine ⟨_, pi_range1 hg hm q hs, fun S0 sl M σ H R RD ED k xl hd l => s S0 sl M σ H _ _ ED k xl hd fun ds M1 vs H1 m1 x1 r1 q1 => ?_⟩
  obtain ⟨j, rfl, b1, b2, q⟩ := q1
  cases r1 with
  | cons ra rb =>
    cases ra; cases rb
    exact ⟨j, rfl, b1, b2, l _ M1 _ H1 m1 x1 itRep_r q⟩
theorem di_range2 (hm : X.mg "range" = none) (h : DAx X E [a, b] dr) (hg : Gl X "range" := by rfl) (hs : starEach [a, b] X.env = [(false, eval a X.env), (false, eval b X.env)] := by rfl) (hs2 : starEach [b] X.env = [(false, eval b X.env)] := by rfl) : DIx X E tg (.Call (.Name "range" p) [a, b] [] pos) (diRange2 dr) := by
  obtain ⟨t, q, s⟩ := h
  refine ⟨_, pi_range2 hg hm q hs hs2, fun S0 sl M σ H R RD ED k xl hd l => s S0 sl M σ H _ _ ED k xl hd fun ds M1 vs H1 m1 x1 r1 q1 => ?_⟩
  obtain ⟨i, j, rfl, bb, q⟩ := q1
  cases r1 with
  | cons ra rb =>
    cases rb with
    | cons rb rc =>
      cases ra; cases rb; cases rc
      exact ⟨i, j, rfl, bb, l _ M1 _ H1 m1 x1 itRep_r q⟩
theorem di_range3 (hm : X.mg "range" = none) (h : DAx X E [a, b, c] dr) (hg : Gl X "range" := by rfl) (hs : starEach [a, b, c] X.env = (false, eval a X.env) :: starEach [b, c] X.env := by rfl) (hpl : (backTo pos (starEach [b, c] X.env)).any (·.1) = false := by rfl) : DIx X E tg (.Call (.Name "range" p) [a, b, c] [] pos) (diRange3 dr) := by
  obtain ⟨t, q, s⟩ := h
  refine ⟨_, pi_range3 hg hm q hs hpl, fun S0 sl M σ H R RD ED k xl hd l => s S0 sl M σ H _ _ ED k xl hd fun ds M1 vs H1 m1 x1 r1 q1 => ?_⟩
  obtain ⟨i, j, k', n, rfl, bb, q⟩ := q1
  cases r1 with
  | cons ra rb =>
    cases rb with
    | cons rb rc =>
      cases rc with
      | cons rc rd =>
        cases ra; cases rb; cases rc; cases rd
        exact ⟨i, j, k', n, rfl, bb, l _ M1 _ H1 m1 x1 itRep_c q⟩

/-! ### for, while -/
def dFor (di : DI) (dg : DG) (tb : DS) : DS := fun Dd sl M => di sl M (Dd.ex sl) fun it M1 => ∃ W : Nat → Slots → Mem → Prop, W 0 sl M1 ∧ (∀ i sl M, i ≤ it.n → W i sl M → it.gd M) ∧
  (∀ i sl M, i < it.n → W i sl M → dg (it.at_ i) sl M fun sl2 M2 => tb { Dd with nx := W (i + 1), ct := W (i + 1), bk := Dd.nx } sl2 M2) ∧ ∀ sl M, W it.n sl M → Dd.nx sl M
theorem ds_for {di : DI} {dg : DG} (hp : PassesOwn (model X.prog X.w) X.A X.env X.xe) (hc : X.calm = true) (hi : DIx X E tg iter di) (hg : DGx X tg dg) (hb : DBx X E sts td) (hs : ∀ x, foldedSetIterable iter X.env x = pure x := by intro _; rfl) :
    DSx X E (.For tg iter sts [] pos) (dFor di dg td) := by
  obtain ⟨wi, p1, s1⟩ := hi
  obtain ⟨g, p2, s2⟩ := hg
  obtain ⟨t, p3, s3⟩ := hb
  refine ⟨_, ps_for hp hc p1 p2 p3 hs, fun S0 sl M σ H Dd Dn k l h => s1 S0 sl M σ H _ _ _ k (l.xl k) h fun it M1 J H1 m1 x1 ir q => ?_⟩
  obtain ⟨W, w0, wg, wt, we⟩ := q
  refine ⟨fun i m σ' H' => m = it.n - i ∧ i ≤ it.n ∧ ∃ sl' M', Ok X.K S0 sl' M' σ' H' ∧ Ext M1 H1 M' H' ∧ W i sl' M', ⟨it.n, by simp, Nat.zero_le _, sl, M1, k.ext m1 x1, .refl _ _, w0⟩, ?_⟩
  rintro i m σ' H' ⟨rfl, hi, sl', M', k', x', w⟩
  have g := ir S0 M' H' (.refl _ _) k'.mem x' (wg i sl' M' hi w)
  by_cases hlt : i < it.n
  · obtain ⟨g1, g2⟩ := g.1 i hlt
    refine .inr ⟨g1, fun σ2 H2 => ∃ sl2 M2, Ok X.K S0 sl2 M2 σ2 H2 ∧ Ext M1 H1 M2 H2 ∧ W (i + 1) sl2 M2, fun σ2 H2 h2 => ⟨it.n - (i + 1), by omega, rfl, hlt, h2⟩, fun y H'' hy => ?_⟩
    obtain ⟨m2, x2, r2⟩ := g2 y H'' hy
    have l2 := l.ext (x1.trans (x'.trans x2))
    refine s2 S0 sl' M' σ' H'' y (it.at_ i) _ _ (k'.ext m2 x2) r2 (wt i sl' M' hlt w) fun sl3 M3 σ3 H3 k3 x3 h3 => ?_
    have l3 := l2.ext x3
    have xx := (x'.trans x2).trans x3
    exact s3 S0 sl3 M3 σ3 H3 { Dd with nx := W (i + 1), ct := W (i + 1), bk := Dd.nx } _ k3 ⟨fun sl4 M4 σ4 H4 k4 x4 h4 => ⟨sl4, M4, k4, xx.trans x4, h4⟩, l3.rt, fun sl4 M4 σ4 H4 k4 x4 h4 => l3.nx sl4 M4 σ4 H4 k4 x4 h4, fun sl4 M4 σ4 H4 k4 x4 h4 => ⟨sl4, M4, k4, xx.trans x4, h4⟩, l3.ex⟩ h3
  · have e : i = it.n := by omega
    subst e
    exact .inl ⟨g.2, l.nx sl' M' σ' H' k' (x1.trans x') (we sl' M' w)⟩
def dWhile (t : DT) (tb : DS) : DS := fun Dd sl M => ∃ W : Nat → Slots → Mem → Prop, (∃ m, W m sl M) ∧ ∀ m sl M, W m sl M → t sl M (Dd.ex sl) fun c M1 =>
  if c = true then tb { Dd with nx := fun sl' M' => ∃ m', m' < m ∧ W m' sl' M', ct := fun sl' M' => ∃ m', m' < m ∧ W m' sl' M', bk := Dd.nx } sl M1 else Dd.nx sl M1
theorem ds_while (hp : PassesOwn (model X.prog X.w) X.A X.env X.xe) (hc : DTx X E c dt) (hb : DBx X E sts td) : DSx X E (.While c sts [] pos) (dWhile dt td) := by
  obtain ⟨t, p1, s1⟩ := hc
  obtain ⟨u, p3, s3⟩ := hb
  refine ⟨_, ps_while hp p1 p3, fun S0 sl M σ H Dd Dn k l h => ?_⟩
  obtain ⟨W, ⟨m0, w0⟩, turn⟩ := h
  refine ⟨fun m σ' H' => ∃ sl' M', Ok X.K S0 sl' M' σ' H' ∧ Ext M H M' H' ∧ W m sl' M', ⟨m0, sl, M, k, .refl _ _, w0⟩, ?_⟩
  rintro m σ' H' ⟨sl', M', k', x', w⟩
  have l' := l.ext x'
  refine s1 S0 sl' M' σ' H' _ _ _ k' (l'.xl k') (turn m sl' M' w) fun c M1 H1 m1 x1 q => ?_
  cases c with
  | true =>
    rw [if_pos rfl] at q ⊢
    have l1 := l'.ext x1
    refine ⟨fun σ2 H2 => ∃ m', m' < m ∧ ∃ sl2 M2, Ok X.K S0 sl2 M2 σ2 H2 ∧ Ext M H M2 H2 ∧ W m' sl2 M2, fun σ2 H2 ⟨m', hm, h2⟩ => ⟨m', hm, h2⟩, ?_⟩
    exact s3 S0 sl' M1 σ' H1 { Dd with nx := fun sl' M' => ∃ m', m' < m ∧ W m' sl' M', ct := fun sl' M' => ∃ m', m' < m ∧ W m' sl' M', bk := Dd.nx } _ (k'.ext m1 x1)
      ⟨fun sl4 M4 σ4 H4 k4 x4 ⟨m', hm, h4⟩ => ⟨m', hm, sl4, M4, k4, (x'.trans x1).trans x4, h4⟩, l1.rt, fun sl4 M4 σ4 H4 k4 x4 h4 => l1.nx sl4 M4 σ4 H4 k4 x4 h4, fun sl4 M4 σ4 H4 k4 x4 ⟨m', hm, h4⟩ => ⟨m', hm, sl4, M4, k4, (x'.trans x1).trans x4, h4⟩, l1.ex⟩ q
  | false =>
    rw [if_neg Bool.false_ne_true] at q ⊢
    exact l'.nx sl' M1 σ' H1 (k'.ext m1 x1) x1 q

/-! ### list comprehensions: one for, no test or one -/
def wipeD (sl : Slots) : List Nat → Slots
  | [] => sl
  | v :: vs => (wipeD sl vs).set v none
theorem wipe_ok {S : Mark} {H : Hp} {σ : L2.St} {sl : Slots} (hl : sl.length = σ.length) (h : SlOk K S H σ sl) : ∀ vs : List Nat, (wipeD sl vs).length = (wipe σ vs).length ∧ SlOk K S H (wipe σ vs) (wipeD sl vs)
  | [] => ⟨hl, h⟩
  | v :: vs => by
    obtain ⟨h1, h2⟩ := wipe_ok hl h vs
    refine ⟨by show ((wipeD sl vs).set v none).length = ((wipe σ vs).set v none).length; rw [List.length_set, List.length_set, h1], fun i d e => ?_⟩
    have e : ((wipeD sl vs).set v none)[i]? = some (some d) := e
    by_cases z : v = i
    · subst z
      have hlt : v < (wipeD sl vs).length := by
        have := (List.getElem?_eq_some_iff.mp e).1
        rwa [List.length_set] at this
      rw [List.getElem?_set_self hlt] at e
      cases e
    · rw [List.getElem?_set_ne z] at e
      obtain ⟨w, e1, r⟩ := h2 i d e
      refine ⟨w, ?_, r⟩
      show ((wipe σ vs).set v none)[i]? = _
      rw [List.getElem?_set_ne z]
      exact e1
theorem wipe_set {i : Nat} {x : Option V} : ∀ {vs : List Nat} {σ : L2.St}, i ∈ vs → wipe (σ.set i x) vs = wipe σ vs
  | v :: vs, σ, h => by
    show (wipe (σ.set i x) vs).set v none = (wipe σ vs).set v none
    by_cases z : i ∈ vs
    · rw [wipe_set z]
    · have e : i = v := by
        rcases List.mem_cons.mp h with e | e
        · exact e
        · exact absurd e z
      subst e
      have : ∀ (ws : List Nat) (τ : L2.St), i ∉ ws → wipe (τ.set i x) ws = (wipe τ ws).set i x := by
        intro ws
        induction ws with
        | nil => intro τ _; rfl
        | cons w ws ih =>
          intro τ hn
          show (wipe (τ.set i x) ws).set w none = ((wipe τ ws).set w none).set i x
          rw [ih τ (fun q => hn (List.mem_cons_of_mem _ q)), List.set_comm _ _ (fun q => hn (by rw [q]; simp))]
      rw [this vs σ z, List.set_set]
theorem wipe_wipe {σ : L2.St} : ∀ vs : List Nat, wipe (wipe σ vs) vs = wipe σ vs := by
  have : ∀ (ws vs : List Nat), (∀ i ∈ ws, i ∈ vs) → wipe (wipe σ ws) vs = wipe σ vs := by
    intro ws
    induction ws with
    | nil => intro vs _; rfl
    | cons w ws ih =>
      intro vs h
      show wipe ((wipe σ ws).set w none) vs = _
      rw [wipe_set (h w (by simp)), ih vs fun i hi => h i (List.mem_cons_of_mem _ hi)]
  exact fun vs => this vs vs fun _ h => h
/-- a target of a comprehension stores in its own names alone -/
def WG (vs : List Nat) (g : TG) : Prop := ∀ (v : V) (σ : L2.St) (H : Hp) (Q : L2.St → Hp → Prop), g v σ H Q → g v σ H fun σ' H' => wipe σ' vs = wipe σ vs ∧ Q σ' H'
def WGs (vs : List Nat) (g : TGs) : Prop := ∀ (v : List V) (σ : L2.St) (H : Hp) (Q : L2.St → Hp → Prop), g v σ H Q → g v σ H fun σ' H' => wipe σ' vs = wipe σ vs ∧ Q σ' H'
def MG (g : TG) : Prop := ∀ (v : V) (σ : L2.St) (H : Hp) (P P' : L2.St → Hp → Prop), (∀ a b, P a b → P' a b) → g v σ H P → g v σ H P'
def MGs (g : TGs) : Prop := ∀ (v : List V) (σ : L2.St) (H : Hp) (P P' : L2.St → Hp → Prop), (∀ a b, P a b → P' a b) → g v σ H P → g v σ H P'
structure DCx (X : Cx) (e : Expr) (vs : List Nat) (td : DG) : Prop where
  ex : ∃ t, PG X e t ∧ SimG X.K t td ∧ WG vs t ∧ MG t
structure DCsx (X : Cx) (e : List Expr) (vs : List Nat) (td : DGs) : Prop where
  ex : ∃ t, PGs X e t ∧ SimGs X.K t td ∧ WGs vs t ∧ MGs t
theorem dc_name {i : Nat} {x : Str} {vs : List Nat} (hN : X.N.Nodup) (hm : i ∈ vs) (hi : X.N[i]? = some x := by rfl) (hx : Loc X.env.scope x := by first | exact .inl rfl | exact .inr rfl) (hf : X.fn x = true ∨ X.env.scope.names.lookup x = some .local := by first | exact .inl rfl | exact .inr rfl) : DCx X (.Name x pos) vs (dName i) :=
  ⟨_, pg_name hN hi hx hf, sim_name, fun v σ H Q h => ⟨wipe_set hm, h⟩, fun v σ H P P' hp h => hp _ _ h⟩
theorem dcs_nil {vs : List Nat} : DCsx X [] vs dgNil := ⟨_, pgs_nil, fun S0 sl M σ H v d Q QD k r h l => by
  obtain ⟨rfl, h⟩ := h
  cases r
  exact ⟨rfl, l _ _ _ _ k (.refl _ _) h⟩, fun v σ H Q h => ⟨h.1, rfl, h.2⟩, fun v σ H P P' hp h => ⟨h.1, hp _ _ h.2⟩⟩
theorem dcs_cons {vs : List Nat} {t : DG} {u : DGs} (h1 : DCx X a vs t) (h2 : DCsx X es vs u) (hs : (assignEach (a :: es) X.env).map (·.2) = assign a X.env :: (assignEach es X.env).map (·.2) := by rfl) : DCsx X (a :: es) vs (dgCons t u) := by
  obtain ⟨t', p, s, w, mt⟩ := h1
  obtain ⟨u', q, r, y, mu⟩ := h2
  refine ⟨_, pgs_cons p q hs, fun S0 sl M σ H v d Q QD k rr h l => ?_, fun v σ H Q h => ?_, fun v σ H P P' hp h => ?_⟩
  · obtain ⟨d, ds, rfl, h⟩ := h
    cases rr with
    | cons r1 r2 =>
      refine ⟨_, _, rfl, s S0 sl M σ H _ d _ _ k r1 h fun sl' M' σ' H' k' x' h' => ?_⟩
      exact r S0 sl' M' σ' H' _ ds Q QD k' (r2.ext x') h' fun sl2 M2 σ2 H2 k2 x2 h2 => l _ _ _ _ k2 (x'.trans x2) h2
  · obtain ⟨x, xs, rfl, h⟩ := h
    refine ⟨x, xs, rfl, mt x σ H _ _ (fun σ' H' z => ?_) (w x σ H _ h)⟩
    exact mu xs σ' H' _ _ (fun σ2 H2 z2 => ⟨z2.1.trans z.1, z2.2⟩) (y xs σ' H' _ z.2)
  · obtain ⟨x, xs, rfl, h⟩ := h
    exact ⟨x, xs, rfl, mt x σ H _ _ (fun σ' H' z => mu xs σ' H' _ _ hp z) h⟩
theorem dc_tup {j n : Nat} {t : DGs} {vs : List Nat} (hc : X.calm = true) (h : DCsx X es vs t) (hn : (assignEach es X.env).length = n := by rfl) (hst : (assignEach es X.env).findIdx? (·.1) = none := by rfl) : DCx X (.Tuple es j pos) vs (dgTup n t) := by
  obtain ⟨t', p, s, w, mt⟩ := h
  refine ⟨_, pg_tup hc p hn hst, fun S0 sl M σ H v d Q QD k r h l => ?_, fun v σ H Q h => ?_, fun v σ H P P' hp h => ?_⟩
  · cases d with
    | tup ds =>
      obtain ⟨h1, h2⟩ := h
      cases r with
      | tup r1 r2 => exact ⟨_, _, rfl, r1.sq, by rw [r2.length]; exact h1, s S0 sl M σ H _ ds Q QD k r2 h2 l⟩
    | _ => exact h.elim
  · obtain ⟨a, xs, e, h1, h2, h3⟩ := h
    exact ⟨a, xs, e, h1, h2, w xs σ H _ h3⟩
  · obtain ⟨a, xs, e, h1, h2, h3⟩ := h
    exact ⟨a, xs, e, h1, h2, mt xs σ H _ _ hp h3⟩
structure DPx (X : Cx) (E : L2.St → XK) (ifs : List Expr) (td : DT) : Prop where
  ex : ∃ t, PTs X ifs t ∧ SimT X.K E t td
def dYes : DT := fun _ M _ Q => Q true M
theorem dp_nil : DPx X E [] dYes := ⟨_, pts_nil, fun S0 sl M σ H Q QD ED k xl hd l => l true M H k.mem (.refl _ _) hd⟩
theorem dp_one (h : DTx X E c dt) : DPx X E [c] dt := by
  obtain ⟨t, p, s⟩ := h
  exact ⟨_, pts_one p, s⟩
def NoX : XD := fun _ _ _ => False
/-- W by the turn, what is made so far, the memory -/
def dLc (o : Bool) (di : DI) (vs : List Nat) (dg : DG) (tt : DT) (te : DE) : DE := fun sl M ED Q => di sl M ED fun it M1 => ∃ W : Nat → List D → Mem → Prop, W 0 [] M1 ∧ (∀ j acc M, j ≤ it.n → W j acc M → it.gd M) ∧
  (∀ j acc M, j < it.n → W j acc M → dg (it.at_ j) (wipeD sl vs) M fun sl2 M2 => tt sl2 M2 NoX fun b M3 => if b = true then te sl2 M3 NoX fun d M4 => acc.length < sizeLine ∧ W (j + 1) (acc ++ [d]) M4 else W (j + 1) acc M3) ∧
  ∀ acc M, W it.n acc M → al o (.lst acc) M Q
theorem MemOk.weak {S0 S1 : Mark} {M : Mem} {H : Hp} (m : MemOk K S1 M H) (h : ∀ a, S0 a → S1 a) : MemOk K S0 M H :=
  ⟨m.nd, fun e he => (m.at_ e he).mono (fun b o eb n => ⟨eb, fun z => n (z.elim (fun z => .inl (h b z)) .inr)⟩) rfl, fun a s => m.trk a (h a s), fun a ha s => m.dis a ha (h a s)⟩
theorem Rep.weak {S0 S1 : Mark} {M : Mem} {H : Hp} {v : V} {d : D} (r : Rep K (SM S1 M) H v d) (h : ∀ a, S0 a → S1 a) : Rep K (SM S0 M) H v d :=
  Rep.mono (fun b o eb n => ⟨eb, fun z => n (z.elim (fun z => .inl (h b z)) .inr)⟩) d v r
theorem XL.no {S0 : Mark} {M : Mem} {H : Hp} {E : XK} : XL K S0 M H E NoX := fun _ _ _ _ _ _ _ _ z => z.elim
theorem sim_lc {o : Bool} {wi : TI} {di : DI} {g : TG} {dg : DG} {t : TT} {te : TE} {tt : DT} {de : DE} {vs : List Nat} {E' : L2.St → XK} (s1 : SimI K E wi di) (s2 : SimG K g dg) (mg : WG vs g) (s3 : SimT K E' t tt) (s4 : SimE K E' te de) : SimE K E (tLc wi g t te vs) (dLc o di vs dg tt de) := by
  intro S0 sl M σ H Q QD ED k xl hd l
  refine s1 S0 sl M σ H _ _ ED k xl hd fun it M1 J H1 m1 x1 ir q => ?_
  obtain ⟨W, w0, wg, wt, we⟩ := q
  intro Dl hD
  -- the new list is marked while it grows
  let S1 : Mark := fun a => S0 a ∨ a = Dl
  have mk : Mk S0 H1 S1 := ⟨fun a h => .inl h, fun a h => h.imp _root_.id fun e => by rw [e]; exact hD⟩
  have hs : ∀ a, S0 a → S1 a := fun a h => .inl h
  have k1 := k.ext m1 x1
  have St : ∀ {acc : List D} {vs' : List V} {M' : Mem} {H' : Hp}, MemOk K S1 M' H' → Ext M1 H1 M' H' → Ok K S1 sl M' σ H' := fun {acc vs' M' H'} m x =>
    ⟨k.len, fun i d e => let ⟨v, e2, r⟩ := k1.sl i d e; ⟨v, e2, Rep.mono (x.kpM mk) d v r⟩, m⟩
  refine ⟨fun i m H' => m = it.n - i ∧ i ≤ it.n ∧ ∃ (acc : List D) (accV : List V) (M' : Mem), MemOk K S1 M' H' ∧ Ext M1 H1 M' H' ∧ H' Dl = some (.lst accV) ∧ Reps K (SM S1 M') H' accV acc ∧ W i acc M', ⟨it.n, by simp, Nat.zero_le _, [], [], M1, ?_, .new_imm hD, upd_same, .nil, w0⟩, ?_⟩
  · have b := m1.new_imm (o := .lst []) hD
    refine ⟨b.nd, fun e he => (m1.at_ e he).mono ((Ext.new_imm (M := M1) (o := .lst []) hD).kpM mk) ?_, fun a h => ?_, fun a ha h => ?_⟩
    · rw [upd_ne]
      intro z
      exact (m1.at_ e he).some (by rw [z]; exact hD)
    · rcases h with h | h
      · exact b.trk a h
      · rw [h, upd_same]; exact fun z => by cases z
    · rcases h with h | h
      · exact m1.dis a ha h
      · rw [h] at ha; exact m1.notKey hD ha
  · rintro i m H' ⟨rfl, hi, acc, accV, M', m', x', eD, rD, w⟩
    have gg := ir S1 M' H' mk m' x' (wg i acc M' hi w)
    by_cases hlt : i < it.n
    · obtain ⟨g1, g2⟩ := gg.1 i hlt
      refine .inr ⟨g1, fun H2 => ∃ (acc : List D) (accV : List V) (M2 : Mem), MemOk K S1 M2 H2 ∧ Ext M1 H1 M2 H2 ∧ H2 Dl = some (.lst accV) ∧ Reps K (SM S1 M2) H2 accV acc ∧ W (i + 1) acc M2, fun H2 h2 => ⟨it.n - (i + 1), by omega, rfl, hlt, h2⟩, fun y H'' hy => ?_⟩
      obtain ⟨m2, x2, r2⟩ := g2 y H'' hy
      have kk : Ok K S1 sl M' σ H'' := St (acc := acc) (vs' := accV) m2 (x'.trans x2)
      have kw : Ok K S1 (wipeD sl vs) M' (wipe σ vs) H'' := let z := wipe_ok kk.len kk.sl vs; ⟨z.1, z.2, m2⟩
      have nD : ∀ {M'' : Mem} {h : Hp}, MemOk K S1 M'' h → Dl ∉ keys M'' := fun m z => m.dis Dl z (.inr rfl)
      have base := s2 S1 (wipeD sl vs) M' (wipe σ vs) H'' y (it.at_ i) (fun σ2 H2 => t σ2 H2 fun b H3 => if b = true then te σ2 H3 fun y H4 => ∃ acc, H4 Dl = some (.lst acc) ∧ acc.length < sizeLine ∧ (∃ (acc' : List D) (accV : List V) (M2 : Mem), MemOk K S1 M2 (upd H4 Dl (.lst (acc ++ [y]))) ∧ Ext M1 H1 M2 (upd H4 Dl (.lst (acc ++ [y]))) ∧ upd H4 Dl (.lst (acc ++ [y])) Dl = some (.lst accV) ∧ Reps K (SM S1 M2) (upd H4 Dl (.lst (acc ++ [y]))) accV acc' ∧ W (i + 1) acc' M2) else
        (∃ (acc : List D) (accV : List V) (M2 : Mem), MemOk K S1 M2 H3 ∧ Ext M1 H1 M2 H3 ∧ H3 Dl = some (.lst accV) ∧ Reps K (SM S1 M2) H3 accV acc ∧ W (i + 1) acc M2)) _ kw r2 (wt i acc M' hlt w) fun sl3 M3 σ3 H3 k3 x3 q3 => ?_
      · have z := mg y (wipe σ vs) H'' _ base
        rw [wipe_wipe] at z
        exact z
      · refine s3 S1 sl3 M3 σ3 H3 _ _ NoX k3 XL.no q3 fun b M4 H4 m4 x4 q4 => ?_
        have x34 := (x2.trans x3).trans x4
        cases b with
        | false =>
          rw [if_neg Bool.false_ne_true] at q4 ⊢
          exact ⟨acc, accV, M4, m4, x'.trans x34, x34.keep _ _ eD (nD m'), rD.ext x34, q4⟩
        | true =>
          rw [if_pos rfl] at q4 ⊢
          refine s4 S1 sl3 M4 σ3 H4 _ _ NoX (k3.ext m4 x4) XL.no q4 fun d M5 u H5 m5 x5 r5 q5 => ?_
          obtain ⟨ql, qw⟩ := q5
          have x35 := x34.trans x5
          have e5 := x35.keep _ _ eD (nD m')
          -- the list with one item more
          have kp : Kp (SM S1 M5) H5 (SM S1 M5) (upd H5 Dl (.lst (accV ++ [u]))) := fun b ob eb n => ⟨by rw [upd_ne (fun z => n (.inl (.inr z)))]; exact eb, n⟩
          refine ⟨accV, e5, by rw [rD.length]; exact ql, acc ++ [d], accV ++ [u], M5, ?_, ?_, upd_same, Reps.mono kp _ _ ((rD.ext x35).append (.one r5)), qw⟩
          · refine ⟨m5.nd, fun e he => (m5.at_ e he).mono kp ?_, fun a h => ?_, m5.dis⟩
            · rw [upd_ne]
              intro z
              exact nD m5 (z ▸ List.mem_map.mpr ⟨e, he, rfl⟩)
            · by_cases z : a = Dl
              · rw [z, upd_same]; exact fun z => by cases z
              · rw [upd_ne z]; exact m5.trk a h
          · have xx := x'.trans x35
            refine ⟨fun b ob eb n => ?_, xx.new, fun b hb => ?_⟩
            · rw [upd_ne (ne_of_none eb hD)]
              exact xx.keep b ob eb n
            · by_cases z : b = Dl
              · rw [z, upd_same]; exact fun z => by cases z
              · rw [upd_ne z]; exact xx.trk b hb
    · have e : i = it.n := by omega
      subst e
      refine .inl ⟨gg.2, ?_⟩
      have q := we acc M' w
      have l' := l.ext (x1.trans x')
      have nD : Dl ∉ keys M' := fun z => m'.dis Dl z (.inr rfl)
      have nS : ¬ S0 Dl := fun z => m1.trk Dl z hD
      have hH : H Dl = none := Classical.byContradiction fun z => x1.trk Dl z hD
      cases o with
      | false =>
        have m0 : MemOk K S0 M' H' := m'.weak hs
        have kp : Kp (SM S1 M') H' (SM S0 M') H' := fun b o eb n => ⟨eb, fun z => n (z.elim (fun z => .inl (hs b z)) .inr)⟩
        exact l'.now m0 (.lst (fun z => z.elim nS nD) eD (Reps.mono kp _ _ rD)) q
      | true =>
        have sm : SM S0 (M' ++ [(Dl, .lst acc)]) = SM S1 M' := by
          funext a
          unfold SM
          rw [keys_append]
          refine propext ⟨fun h => ?_, fun h => ?_⟩
          · rcases h with h | h
            · exact .inl (.inl h)
            · rcases List.mem_append.mp h with h | h
              · exact .inr h
              · have : a = Dl := by simpa [keys] using h
                exact .inl (.inr this)
          · rcases h with (h | h) | h
            · exact .inl h
            · exact .inr (List.mem_append_right _ (by simp [keys, h]))
            · exact .inr (List.mem_append_left _ h)
        refine l (.ref Dl) _ _ _ ⟨?_, fun e he => ?_, fun a h => m'.trk a (hs a h), fun a ha => ?_⟩ ⟨(x1.trans x').keep, fun b hb => ?_, (x1.trans x').trk⟩ (.ref Dl) (q Dl nD)
        · rw [keys_append]
          refine List.nodup_append.mpr ⟨m'.nd, by simp [keys], fun a ha b hb z => ?_⟩
          have : b = Dl := by simpa [keys] using hb
          exact nD (by rw [← this, ← z]; exact ha)
        · rw [sm]
          rcases List.mem_append.mp he with he | he
          · exact m'.at_ e he
          · have : e = (Dl, .lst acc) := by simpa using he
            subst this
            exact ⟨accV, eD, rD⟩
        · rw [keys_append] at ha
          rcases List.mem_append.mp ha with h | h
          · exact fun z => m'.dis a h (.inl z)
          · have : a = Dl := by simpa [keys] using h
            rw [this]; exact nS
        · rw [keys_append] at hb
          rcases List.mem_append.mp hb with h | h
          · exact (x1.trans x').new b h
          · have : b = Dl := by simpa [keys] using h
            rw [this]; exact .inr hH
theorem de_lc (o : Bool) {scope : Scope} {own : List (Str × Nat)} {ifs : List Expr} {elt : Expr} {di : DI} {dg : DG} {tt : DT} {te : DE} (hc : X.calm = true) (hN : X.N.Nodup) (hi : DIx X E tg iter di) (ok : BlkOk X.N X.env.scope scope own)
    (hg : ∀ (s : Shared) (H : Hp) (C : Addr) (cl : List (Str × Addr)) (fp : List Addr), DCx (X.blk s H scope (compEnvC scope cl C X.env) fp) tg (own.map (·.2)) dg)
    (ht : ∀ (s : Shared) (H : Hp) (C : Addr) (cl : List (Str × Addr)) (fp : List Addr), DPx (X.blk s H scope (compEnvC scope cl C X.env) fp) (fun _ => E0) ifs tt)
    (he : ∀ (s : Shared) (H : Hp) (C : Addr) (cl : List (Str × Addr)) (fp : List Addr), DEx (X.blk s H scope (compEnvC scope cl C X.env) fp) (fun _ => E0) elt te) (hs : ∀ x, foldedSetIterable iter X.env x = pure x := by intro _; rfl) :
    DEx X E (.ListComp elt [⟨tg, iter, ifs, 0⟩] scope pos) (dLc o di (own.map (·.2)) dg tt te) := by
  obtain ⟨wi, p1, s1⟩ := hi
  refine ⟨_, pe_lc (g := fun v σ H Q => ∀ s H0 C cl fp, (hg s H0 C cl fp).ex.choose v σ H Q) (tt := fun σ H Q => ∀ s H0 C cl fp, (ht s H0 C cl fp).ex.choose σ H Q) (te := fun σ H Q => ∀ s H0 C cl fp, (he s H0 C cl fp).ex.choose σ H Q) hc hN p1 ok
    (fun s H0 C cl fp => ⟨fun pins st σ H v u Q I r h => (hg s H0 C cl fp).ex.choose_spec.1.run pins st σ H v u Q I r (h s H0 C cl fp)⟩)
    (fun s H0 C cl fp => ⟨fun pins st σ H Q I h => (ht s H0 C cl fp).ex.choose_spec.1.run pins st σ H Q I (h s H0 C cl fp)⟩)
    (fun s H0 C cl fp => ⟨fun pins st σ H Q I h => (he s H0 C cl fp).ex.choose_spec.1.run pins st σ H Q I (h s H0 C cl fp)⟩) hs, ?_⟩
  refine sim_lc (E' := fun _ => E0) s1 ?_ ?_ ?_ ?_
  · exact fun S0 sl M σ H v d Q QD k r h l s H0 C cl fp => (hg s H0 C cl fp).ex.choose_spec.2.1 S0 sl M σ H v d Q QD k r h l
  · exact fun v σ H Q h s H0 C cl fp => (hg s H0 C cl fp).ex.choose_spec.2.2.1 v σ H Q (h s H0 C cl fp)
  · exact fun S0 sl M σ H Q QD ED k xl h l s H0 C cl fp => (ht s H0 C cl fp).ex.choose_spec.2 S0 sl M σ H Q QD ED k xl h l
  · exact fun S0 sl M σ H Q QD ED k xl h l s H0 C cl fp => (he s H0 C cl fp).ex.choose_spec.2 S0 sl M σ H Q QD ED k xl h l
/-- name = [..], the name a local that no block has -/
theorem ds_setLc (o : Bool) {i : Nat} {y : Str} {py spos : Pos} {scope : Scope} {own : List (Str × Nat)} {ifs : List Expr} {elt : Expr} {di : DI} {dg : DG} {tt : DT} {te : DE} (hc : X.calm = true) (hN : X.N.Nodup) (hi : DIx X E tg iter di) (ok : BlkOk X.N X.env.scope scope own)
    (hg : ∀ (s : Shared) (H : Hp) (C : Addr) (cl : List (Str × Addr)) (fp : List Addr), DCx (X.blk s H scope (compEnvC scope cl C X.env) fp) tg (own.map (·.2)) dg)
    (ht : ∀ (s : Shared) (H : Hp) (C : Addr) (cl : List (Str × Addr)) (fp : List Addr), DPx (X.blk s H scope (compEnvC scope cl C X.env) fp) (fun _ => E0) ifs tt)
    (he : ∀ (s : Shared) (H : Hp) (C : Addr) (cl : List (Str × Addr)) (fp : List Addr), DEx (X.blk s H scope (compEnvC scope cl C X.env) fp) (fun _ => E0) elt te)
    (hy : X.N[i]? = some y := by rfl) (hyl : X.env.scope.names.lookup y = some .local := by rfl) (hk : X.env.scope.kind = .function := by rfl) (hl : (py.line == pos.line) = true := by rfl)
    (ha : (scope.names.any fun (n, k) => n == y && (k == .local || k == .cell)) = false := by rfl) (hs : ∀ x, foldedSetIterable iter X.env x = pure x := by intro _; rfl) :
    DSx X E (.Assign [.Name y py] (.ListComp elt [⟨tg, iter, ifs, 0⟩] scope pos) spos) (dAsg (dLc o di (own.map (·.2)) dg tt te) (dName i)) := by
  obtain ⟨wi, p1, s1⟩ := hi
  refine ⟨_, ps_setLc (g := fun v σ H Q => ∀ s H0 C cl fp, (hg s H0 C cl fp).ex.choose v σ H Q) (tt := fun σ H Q => ∀ s H0 C cl fp, (ht s H0 C cl fp).ex.choose σ H Q) (te := fun σ H Q => ∀ s H0 C cl fp, (he s H0 C cl fp).ex.choose σ H Q) hc hN hy hyl (sw_true hk hyl hl ha) p1 ok
    (fun s H0 C cl fp => ⟨fun pins st σ H v u Q I r h => (hg s H0 C cl fp).ex.choose_spec.1.run pins st σ H v u Q I r (h s H0 C cl fp)⟩)
    (fun s H0 C cl fp => ⟨fun pins st σ H Q I h => (ht s H0 C cl fp).ex.choose_spec.1.run pins st σ H Q I (h s H0 C cl fp)⟩)
    (fun s H0 C cl fp => ⟨fun pins st σ H Q I h => (he s H0 C cl fp).ex.choose_spec.1.run pins st σ H Q I (h s H0 C cl fp)⟩) hs, sim_asg (sim_lc (E' := fun _ => E0) s1 ?_ ?_ ?_ ?_) sim_name⟩
  · exact fun S0 sl M σ H v d Q QD k r h l s H0 C cl fp => (hg s H0 C cl fp).ex.choose_spec.2.1 S0 sl M σ H v d Q QD k r h l
  · exact fun v σ H Q h s H0 C cl fp => (hg s H0 C cl fp).ex.choose_spec.2.2.1 v σ H Q (h s H0 C cl fp)
  · exact fun S0 sl M σ H Q QD ED k xl h l s H0 C cl fp => (ht s H0 C cl fp).ex.choose_spec.2 S0 sl M σ H Q QD ED k xl h l
  · exact fun S0 sl M σ H Q QD ED k xl h l s H0 C cl fp => (he s H0 C cl fp).ex.choose_spec.2 S0 sl M σ H Q QD ED k xl h l
end
end OD

/-! OD9: a def keeps its promise. -/
namespace OD
open PySem PySem.Spec L2

def startD (N : List Str) (ds : List D) : Slots := ds.map some ++ List.replicate (N.length - ds.length) none
theorem start_ok {K : PySem.W.Frag} {S0 : Mark} {M : Mem} {H : Hp} {N : List Str} {vs : List V} {ds : List D} (m : MemOk K S0 M H) (r : Reps K (SM S0 M) H vs ds) : Ok K S0 (startD N ds) M (L2.start N vs) H := by
  refine ⟨?_, fun i d e => ?_, m⟩
  · unfold startD L2.start
    rw [List.length_append, List.length_append, List.length_map, List.length_map, List.length_replicate, List.length_replicate, r.length]
  · unfold startD at e
    have hi : i < ds.length := by
      by_cases h : i < ds.length
      · exact h
      · rw [List.getElem?_append_right (by simpa using h), List.getElem?_replicate] at e
        split at e <;> cases e
    rw [List.getElem?_append_left (by simpa using hi), List.getElem?_map, List.getElem?_eq_getElem hi] at e
    cases e
    obtain ⟨v, e2, rv⟩ := r.get (List.getElem?_eq_getElem hi)
    refine ⟨v, ?_, rv⟩
    unfold L2.start
    have hv : i < vs.length := by rw [r.length]; exact hi
    rw [List.getElem?_append_left (by simpa using hv), List.getElem?_map, e2]
    rfl
theorem sub_keys2 {M M' : Mem} (h : M.Sublist M') : ∀ a, a ∈ keys M → a ∈ keys M' := fun a ha => by
  obtain ⟨e, he, rfl⟩ := List.mem_map.mp ha
  exact List.mem_map.mpr ⟨e, h.subset he, rfl⟩
theorem MemOk.sub {K : PySem.W.Frag} {S0 : Mark} {M M' : Mem} {H : Hp} (m : MemOk K S0 M' H) (h : M.Sublist M') : MemOk K S0 M H :=
  ⟨m.nd.sublist (h.map _), fun e he => (m.at_ e (h.subset he)).mono (fun b o eb n => ⟨eb, fun z => n (z.elim .inl fun z => .inr (sub_keys2 h b z))⟩) rfl, m.trk, fun a ha => m.dis a (sub_keys2 h a ha)⟩
theorem Ext.sub {M M1 M2 : Mem} {H H' : Hp} (x : Ext M H M1 H') (h : M2.Sublist M1) : Ext M H M2 H' := ⟨x.keep, fun b hb => x.new b (sub_keys2 h b hb), x.trk⟩
theorem Rep.sub {K : PySem.W.Frag} {S0 : Mark} {M M' : Mem} {H : Hp} {v : V} {d : D} (r : Rep K (SM S0 M') H v d) (h : M.Sublist M') : Rep K (SM S0 M) H v d :=
  Rep.mono (fun b o eb n => ⟨eb, fun z => n (z.elim .inl fun z => .inr (sub_keys2 h b z))⟩) d v r
/-- what a body must come to: some of the owned objects are let go -/
def Out (M : Mem) (QD : DK) : DK := fun d M' => ∃ M'' : Mem, M''.Sublist M' ∧ Pre M M'' ∧ QD d M''
def outs (M : Mem) (QD : DK) : DEnds := { nx := fun _ M' => Out M QD .non M', rt := Out M QD }
theorem Out.all {M M' : Mem} {QD : DK} {d : D} (p : Pre M M') (q : QD d M') : Out M QD d M' := ⟨M', List.Sublist.refl _, p, q⟩
theorem Out.none {M' : Mem} {QD : DK} {d : D} (q : QD d []) : Out [] QD d M' := ⟨[], List.nil_sublist _, rfl, q⟩
theorem Out.pre {M M1 M2 : Mem} {QD : DK} {d : D} (p : keys M1 = keys M) (q : QD d M1) : Out M QD d (M1 ++ M2) := by
  refine ⟨M1, List.sublist_append_left _ _, ?_, q⟩
  have hl : M1.length = M.length := by
    have := congrArg List.length p
    unfold keys at this
    rwa [List.length_map, List.length_map] at this
  unfold Pre
  rw [← hl, List.take_length, p]
section
variable {P : Program} {w : World} {K : PySem.W.Frag} {mg : Str → Option Value} {base : Heap} {x qual : Str} {st : Stmt} {f : Addr} {fd : FuncData} {N ps : List Str} {k : Nat} {F : FD} {td : DS}
/-- THE RULE for a def that lets nothing out -/
theorem fn_d (Fn : Fun K x qual st f fd) (S : FnScope N ps (defScope st)) (hlen : ∀ ds M ED QD, F ds M ED QD → ds.length = ps.length)
    (hder : ∀ (cdv : Value) (A : Around) (outer : List Env) (s : Shared) (H : Hp) (E : XK), Room k (A.deeper (PyProof.Rows.envOfC qual (defScope st) s.heap.objs.size f cdv)) →
      DBx (cxOf CX0 P w K mg base N qual (defScope st) f cdv A outer s H E).nox (fun _ => E0) (defBody st) td)
    (hrd : ∀ ds M ED QD, F ds M ED QD → td (outs M QD) (startD N ds) M) : FnOk P w K mg base CX0 (k + 1) f fd ps (spD K F) := by
  refine Fn.ok S (fun vs H Q E h => ?_) (fun cdv A outer s H vs Q E hr h => ?_)
  · obtain ⟨S0, ds, M, QD, ED, m, r, h, _⟩ := h
    rw [r.length]
    exact hlen _ _ _ _ h
  · obtain ⟨S0, ds, M, QD, ED, m, r, h, lq, _⟩ := h
    obtain ⟨t, p, s'⟩ := (hder cdv A outer s H E hr).ex
    refine ⟨t, p, s' S0 (startD N ds) M (L2.start N vs) H (outs M QD) _ (start_ok m r) ⟨fun sl' M' σ' H' k' x' h' => ?_, fun d M' v H' m' x' r' h' => ?_, fun _ _ _ _ _ _ z => z.elim, fun _ _ _ _ _ _ z => z.elim, fun _ _ _ _ _ _ => XL.no⟩ (hrd ds M ED QD h)⟩
    · obtain ⟨M2, sb, pr, q⟩ := h'
      exact lq .non M2 .non H' (k'.mem.sub sb) (x'.sub sb) pr .non q
    · obtain ⟨M2, sb, pr, q⟩ := h'
      exact lq d M2 v H' (m'.sub sb) (x'.sub sb) pr (r'.sub sb) q
/-- a def of the top keeps its promise at whatever place it stands -/
structure DefOk (P : Program) (w : World) (K : PySem.W.Frag) (mg : Str → Option Value) (base : Heap) (k : Nat) (x : Str) (ps : List Str) (F : FD) : Prop where
  ex : ∃ (f : Addr) (fd : FuncData), mg x = some (.ref f) ∧ PySem.W.keepIn K (.ref f) = true ∧ Binds K fd ps [] ∧ FnOk P w K mg base CX0 k f fd ps (spD K F)
theorem DefOk.of (Fn : Fun K x x st f fd) (m : mg x = some (.ref f)) (b : Binds K fd ps []) (S : FnScope N ps (defScope st)) (hlen : ∀ ds M ED QD, F ds M ED QD → ds.length = ps.length)
    (hder : ∀ (cdv : Value) (A : Around) (outer : List Env) (s : Shared) (H : Hp) (E : XK), Room k (A.deeper (PyProof.Rows.envOfC x (defScope st) s.heap.objs.size f cdv)) →
      DBx (cxOf CX0 P w K mg base N x (defScope st) f cdv A outer s H E).nox (fun _ => E0) (defBody st) td)
    (hrd : ∀ ds M ED QD, F ds M ED QD → td (outs M QD) (startD N ds) M) : DefOk P w K mg base (k + 1) x ps F :=
  ⟨f, fd, m, Fn.kp, b, fn_d Fn S hlen hder hrd⟩
/-- a def that is never called but as the law -/
def spLaw (K : PySem.W.Frag) : Sp := fun vs H Q _ => ∃ (a : Addr) (ns : List Int), vs = [.ref a] ∧ SqL K H a (ns.map V.int) ∧ ns.length ≤ 63 ∧ ∀ H', Q (.bl true) H'
def fdLaw : FD := fun ds M _ Q => ∃ ns : List Int, ds = [.scr ns] ∧ M = [] ∧ ns.length ≤ 63 ∧ Q (.bl true) []
theorem fdLaw_len : ∀ ds M ED QD, fdLaw ds M ED QD → ds.length = 1 := fun ds M ED QD ⟨ns, e, _⟩ => by rw [e]; rfl
theorem law_ok (h : FnOk P w K mg base CX0 k f fd ps (spD K fdLaw)) : FnOk P w K mg base CX0 k f fd ps (spLaw K) := h.imp fun vs H Q E ⟨a, ns, e, hs, hl, q⟩ => by
  subst e
  have m0 : MemOk K (fun _ => False) [] H := ⟨List.nodup_nil, fun e h => (List.not_mem_nil h).elim, fun a h => h.elim, fun a h => (List.not_mem_nil h).elim⟩
  refine ⟨fun _ => False, [.scr ns], [], fun d _ => d = .bl true, fun _ _ _ => False, m0, .one (.scr ?_), ⟨ns, rfl, rfl, hl, rfl⟩, fun d M' v H' m x p r e => ?_, fun _ _ _ _ _ _ _ _ _ z => z.elim⟩
  · rcases hs with hs | hs
    · exact .inl ⟨fun z => z.elim _root_.id fun z => (List.not_mem_nil z).elim, hs⟩
    · exact .inr hs
  · subst e
    cases r
    exact q H'
end
section
variable {X : Cx} {E : L2.St → XK} {a : Expr} {es : List Expr} {pos p : Pos} {dr : DA} {F : FD} {x : Str} {ps : List Str} {k : Nat}
theorem de_callD (c : DefOk X.prog X.w X.K X.mg X.base k x ps F) (hr : Room k X.A) (ks : List Nat) (ha : DAx X E (a :: es) dr) (hk : ks.Nodup := by decide) (hg : Gl X x := by rfl) (hdb : (x == ("__debug__" : Str)) = false := by decide)
    (he : starEach (a :: es) X.env = (false, eval a X.env) :: starEach es X.env := by rfl) (hpl : (backTo pos (starEach es X.env)).any (·.1) = false := by rfl) : DEx X E (.Call (.Name x p) (a :: es) [] pos) (dCall0 F ks dr) := by
  obtain ⟨f, fd, m, kp, b, G⟩ := c
  exact de_call G hr m kp b ks ha hk hg hdb he hpl
theorem de_callD0 (c : DefOk X.prog X.w X.K X.mg X.base k x ps F) (hr : Room k X.A) (ks : List Nat) (hk : ks.Nodup := by decide) (hg : Gl X x := by rfl) (hdb : (x == ("__debug__" : Str)) = false := by decide) : DEx X E (.Call (.Name x p) [] [] pos) (dCall0 F ks dNil) := by
  obtain ⟨f, fd, m, kp, b, G⟩ := c
  exact de_call0 G hr m kp b ks hk hg hdb
end
end OD

/-! OD10: a call of what an expression gives. -/
namespace OD
open PySem PySem.Spec L2
/-- a def that is known by its address -/
structure HeldD (P : Program) (w : World) (K : PySem.W.Frag) (mg : Str → Option Value) (base : Heap) (k : Nat) (f : Addr) (F : FD) : Prop where
  ex : ∃ (fd : FuncData) (ps : List Str), FnOk P w K mg base CX0 k f fd ps (spD K F) ∧ PySem.W.keepIn K (.ref f) = true ∧ Binds K fd ps []
def tCallE (K : PySem.W.Frag) (tf : TE) (S : Addr → FD → Prop) (t : TA) : TE := fun σ H Q => tf σ H fun v H1 => ∃ f F, v = .ref f ∧ S f F ∧ t σ H1 fun vs H2 => spD K F vs H2 Q E0
def dCallE (df : DE) (S : Addr → FD → Prop) (ks : List Nat) (dr : DA) : DE := fun sl M ED Q => df sl M ED fun d M1 => ∃ f F, d = .ref f ∧ S f F ∧ dr sl M1 ED fun ds M2 => (sel ks M2).length = ks.length ∧ F ds (sel ks M2) (fun _ _ _ => False) fun d Mc => Q d (putM ks M2 Mc)
section
variable {X : Cx} {E : L2.St → XK} {K : PySem.W.Frag} {fe a e : Expr} {es : List Expr} {pos p : Pos} {df di : DE} {dr : DA} {S : Addr → FD → Prop} {ks : List Nat} {k : Nat} {tf : TE} {t : TA}
theorem pe_callE (A : ∀ f F, S f F → HeldD X.prog X.w X.K X.mg X.base k f F) (hr : Room k X.A) (hf : PE X fe tf) (ha : PA X (e :: es) t)
    (ht : eval (.Call fe (e :: es) [] pos) X.env = (do callWith pos (← eval fe X.env) [] (backTo pos (starEach (e :: es) X.env)) (backToKw pos (keywordEach [] X.env))) := by rfl)
    (he : starEach (e :: es) X.env = (false, eval e X.env) :: starEach es X.env := by rfl) (hpl : (backTo pos (starEach es X.env)).any (·.1) = false := by rfl) : PE X (.Call fe (e :: es) [] pos) (tCallE X.K tf S t) := by
  refine ⟨fun pins s σ H Q I h => ?_⟩
  refine PyProof.Rows.Call_ (thn (hf.run pins s σ H _ I h) fun u s1 ⟨y, H1, I1, ry, f, F, ey, hS, q⟩ => ?_) ht
  subst ey
  obtain rfl : u = Value.ref f := ry
  obtain ⟨fd, ps, G, hk, hb⟩ := (A f F hS).ex
  refine PySem.W.callWith_K (h₀ := X.base) I1.ok.mod.kin hk (thn (ha.run pos pins s1 σ _ _ I1 q) fun us s2 ⟨vs, H2, I2, r, q⟩ => ⟨I2.kIn, ?_⟩) he hpl
  exact run_fn (dvs := []) G hr hb .nil pass0 I2 r (by rw [List.append_nil]; exact q)
theorem sim_callE (hk : ks.Nodup) (sf : SimE K E tf df) (s : SimA K E t dr) : SimE K E (tCallE K tf S t) (dCallE df S ks dr) := by
  intro S0 sl M σ H Q QD ED k xl hd l
  refine sf S0 sl M σ H _ _ ED k xl hd fun d M1 v H1 m1 x1 r1 q1 => ?_
  obtain ⟨f, F, rfl, hS, q1⟩ := q1
  cases r1
  refine ⟨f, F, rfl, hS, s S0 sl M1 σ H1 _ _ ED (k.ext m1 x1) (xl.ext x1) q1 fun ds M2 vs H2 m2 x2 r2 q2 => ?_⟩
  obtain ⟨hl, q⟩ := q2
  refine ⟨mk0 S0 ks M2, ds, sel ks M2, _, _, m2.sel hk, by rw [mk0_sm]; exact r2, q, fun d M' v H' m' x' pr r' q' => ?_, fun cls fs M' dd H' m' x' pr r' q' => q'.elim⟩
  obtain ⟨g1, g2, g3⟩ := put_back m2 hk hl m' x' pr
  exact l d _ v H' g1 ((x1.trans x2).trans g2) (by rw [g3]; exact r') q'
theorem de_callE (A : ∀ f F, S f F → HeldD X.prog X.w X.K X.mg X.base k f F) (hr : Room k X.A) (hf : DEx X E fe df) (ks : List Nat) (ha : DAx X E (a :: es) dr) (hk : ks.Nodup := by decide)
    (ht : eval (.Call fe (a :: es) [] pos) X.env = (do callWith pos (← eval fe X.env) [] (backTo pos (starEach (a :: es) X.env)) (backToKw pos (keywordEach [] X.env))) := by rfl)
    (he : starEach (a :: es) X.env = (false, eval a X.env) :: starEach es X.env := by rfl) (hpl : (backTo pos (starEach es X.env)).any (·.1) = false := by rfl) : DEx X E (.Call fe (a :: es) [] pos) (dCallE df S ks dr) := by
  obtain ⟨tf, pf, sf⟩ := hf
  obtain ⟨t, pa, s⟩ := ha
  exact ⟨_, pe_callE A hr pf pa ht he hpl, sim_callE hk sf s⟩
theorem DEx.weak {d d' : DE} (h : DEx X E a d) (w : ∀ sl M ED Q, d' sl M ED Q → d sl M ED Q) : DEx X E a d' := by
  obtain ⟨t, p, s⟩ := h
  exact ⟨t, p, fun S0 sl M σ H Q QD ED k xl hd l => s S0 sl M σ H Q QD ED k xl (w _ _ _ _ hd) l⟩
/-- [f, g, h][i](..), i a name -/
def dPick3 (Fa Fb Fc : FD) (ks : List Nat) (i : Nat) (dr : DA) : DE := fun sl M ED Q => ∃ F : FD, ((sl[i]? = some (some (.int 0)) ∧ F = Fa) ∨ (sl[i]? = some (some (.int 1)) ∧ F = Fb) ∨ (sl[i]? = some (some (.int 2)) ∧ F = Fc)) ∧
  dr sl M ED fun ds M2 => (sel ks M2).length = ks.length ∧ F ds (sel ks M2) (fun _ _ _ => False) fun d Mc => Q d (putM ks M2 Mc)
theorem de_pick3 {xa xb xc : Str} {pa pb pc lpos spos : Pos} {psa psb psc : List Str} {Fa Fb Fc : FD} {ie : Expr} {i : Nat} (ca : DefOk X.prog X.w X.K X.mg X.base k xa psa Fa) (cb : DefOk X.prog X.w X.K X.mg X.base k xb psb Fb) (cc : DefOk X.prog X.w X.K X.mg X.base k xc psc Fc)
    (hu : X.A.units + 64 < cLine) (hr : Room k X.A) (hi : DEx X E ie (dVar i)) (ks : List Nat) (ha : DAx X E (a :: es) dr) (hk : ks.Nodup := by decide)
    (ga : Gl X xa := by rfl) (gb : Gl X xb := by rfl) (gc : Gl X xc := by rfl) (da : (xa == ("__debug__" : Str)) = false := by decide) (db : (xb == ("__debug__" : Str)) = false := by decide) (dc : (xc == ("__debug__" : Str)) = false := by decide)
    (hs : PlainIx ie := by exact fun _ _ => rfl)
    (ht : eval (.Call (.Subscript (.List [.Name xa pa, .Name xb pb, .Name xc pc] lpos) ie spos) (a :: es) [] pos) X.env = (do callWith pos (← eval (.Subscript (.List [.Name xa pa, .Name xb pb, .Name xc pc] lpos) ie spos) X.env) [] (backTo pos (starEach (a :: es) X.env)) (backToKw pos (keywordEach [] X.env))) := by rfl)
    (he : starEach (a :: es) X.env = (false, eval a X.env) :: starEach es X.env := by rfl) (hpl : (backTo pos (starEach es X.env)).any (·.1) = false := by rfl) :
    DEx X E (.Call (.Subscript (.List [.Name xa pa, .Name xb pb, .Name xc pc] lpos) ie spos) (a :: es) [] pos) (dPick3 Fa Fb Fc ks i dr) := by
  obtain ⟨fa, fda, ma, ka, ba, Ga⟩ := ca
  obtain ⟨fb, fdb, mb, kb, bb, Gb⟩ := cb
  obtain ⟨fc, fdc, mc, kc, bc, Gc⟩ := cc
  refine (de_callE (S := fun f F => (f = fa ∧ F = Fa) ∨ (f = fb ∧ F = Fb) ∨ (f = fc ∧ F = Fc)) (fun f F h => ?_) hr
    (de_ix hu (de_lst false (da_cons (de_glob (v := .ref fa) (d := .ref fa) ga ma rfl (fun _ _ => .ref _) da) (da_cons (de_glob (v := .ref fb) (d := .ref fb) gb mb rfl (fun _ _ => .ref _) db) (da_cons (de_glob (v := .ref fc) (d := .ref fc) gc mc rfl (fun _ _ => .ref _) dc) da_nil)))) hi hs) ks ha hk ht he hpl).weak ?_
  · rcases h with ⟨rfl, rfl⟩ | ⟨rfl, rfl⟩ | ⟨rfl, rfl⟩
    · exact ⟨_, _, Ga, ka, ba⟩
    · exact ⟨_, _, Gb, kb, bb⟩
    · exact ⟨_, _, Gc, kc, bc⟩
  · rintro sl M ED Q ⟨F, h, q⟩
    have h3 : (3 : Nat) ≤ sizeLine := by decide
    rcases h with ⟨e, rfl⟩ | ⟨e, rfl⟩ | ⟨e, rfl⟩
    · exact ⟨h3, _, e, _, atI_nat (j := 0) rfl, _, _, rfl, .inl ⟨rfl, rfl⟩, q⟩
    · exact ⟨h3, _, e, _, atI_nat (j := 1) rfl, _, _, rfl, .inr (.inl ⟨rfl, rfl⟩), q⟩
    · exact ⟨h3, _, e, _, atI_nat (j := 2) rfl, _, _, rfl, .inr (.inr ⟨rfl, rfl⟩), q⟩
end
end OD

/-! OD12: enumerate of a list or a tuple. -/
namespace OD
open PySem PySem.Spec L2 PyProof.Rows
theorem drawsT {q : Program} {w : World} {B : Around} (hB : B.handled = none) (j t : Addr) (ne : t ≠ j) (vs : Array Value) :
    Draws q w B j [j, t] vs.size (fun i v => vs[i]? = some v) (fun i h => h.IsTupleIter j t i ∧ h.IsTuple t vs) where
  live := fun _ _ z => let ⟨o, e, _⟩ := z.1; ⟨o, e⟩
  frame := fun _ _ _ z f => ⟨z.1.at fun o e => f j (by simp) o e, z.2.at fun o e => f t (by simp) o e⟩
  item := fun i s Q E hi z hQ => wpAny_nextOf_tuple_item z.1 z.2 (x := vs[i]) (by simp [hi]) fun h' z' sb => hQ _ h' s.toks (by simp [hi]) ⟨z', z.2.extBut sb.extBut ne⟩ sb
  done := fun s Q E z hE => wpAny_nextOf_tuple_end hB z.1 z.2 (by simp) hE
theorem drawsEnd {q : Program} {w : World} {B : Around} (hB : B.handled = none) (j t : Addr) (vs : Array Value) (i : Nat) (hx : vs[i]? = none) :
    Draws q w B j [j, t] 0 (fun _ _ => False) (fun _ h => h.IsTupleIter j t i ∧ h.IsTuple t vs) where
  live := fun _ _ z => let ⟨o, e, _⟩ := z.1; ⟨o, e⟩
  frame := fun _ _ _ z f => ⟨z.1.at fun o e => f j (by simp) o e, z.2.at fun o e => f t (by simp) o e⟩
  item := fun i s Q E hi _ _ => absurd hi (Nat.not_lt_zero _)
  done := fun s Q E z hE => wpAny_nextOf_tuple_end hB z.1 z.2 hx hE
section
variable {q : Program} {w : World} {B : Around} {E : Value → Shared → Prop} {s : Shared}
/-- the two objects that enumerate lays for a tuple -/
abbrev tupIt (t : Addr) : Obj := { cls := .type "tuple_iterator", data := .fields #[.ref t, .int 0 0] }
abbrev enumOb (j : Addr) : Obj := { cls := .type "enumerate", data := .fields #[.none, .bool false, .ref j, rawInt 0, .none, .none] }
theorem new_enumT (t : Addr) (vs : Array Value) (n : Nat) (dd : Option Addr) (zs : Array (Option Value)) :
    Meets (Builtin.«enumerate.__new__» ⟨[.type "enumerate", .ref t], []⟩) (fun _ R u => u.heap.get? t = some { cls := .type "tuple", dict := dd, data := .seq vs n, slots := zs } ∧
      R (.ok (.ret (.ref (u.heap.push (tupIt t)).objs.size))) { u with heap := (u.heap.push (tupIt t)).push (enumOb u.heap.objs.size) }) :=
  .of_wp fun prog w A R u k => by
    obtain ⟨hp, g, d, tk, os⟩ := u; obtain ⟨ht, k⟩ := k
    have su := sub_enumerate
    have hT : Heap.IsTuple (Shared.heap ⟨hp, g, d, tk, os⟩) t vs := ⟨_, ht, rfl, n, rfl⟩
    wp_walk using AutoSeq1.wpAny_loadPart' ht
    refine wpAny_stack_any fun z => wpAny_pure ?_
    split
    · rename_i c _ _ _ _ _
      cases (c == Value.type "enumerate")
      · wp_walk using AutoSeq1.wpAny_loadPart' ht, wpAny_pyIter_tuple hT
        exact ⟨_, rfl, k⟩
      · wp_walk using AutoSeq1.wpAny_loadPart' ht, wpAny_pyIter_tuple hT
        exact ⟨_, rfl, k⟩
    · wp_walk using AutoSeq1.wpAny_loadPart' ht, wpAny_pyIter_tuple hT
      exact ⟨_, rfl, k⟩
theorem call_enumT {t : Addr} {vs : Array Value} {Q : Value → Shared → Prop} (hT : s.heap.IsTuple t vs)
    (k : ∀ h', IsEnum h' (s.heap.objs.size + 1) s.heap.objs.size 0 .none → h'.IsTupleIter s.heap.objs.size t 0 → h'.objs.size = s.heap.objs.size + 2 → (∀ b o, s.heap.get? b = some o → h'.get? b = some o) → Q (.ref (s.heap.objs.size + 1)) { s with heap := h' }) :
    wpAny (model q w) B (call (.type "enumerate") [.ref t]) Q E s := by
  obtain ⟨⟨c, dd, dt, zs⟩, ht, hc, n, hd⟩ := hT
  have hc : c = .type "tuple" := hc
  have hd : dt = .seq vs n := hd
  subst hc; subst hd
  have hz : (s.heap.push (tupIt t)).objs.size = s.heap.objs.size + 1 := Heap.size_push ..
  have he : IsEnum ((s.heap.push (tupIt t)).push (enumOb s.heap.objs.size)) (s.heap.objs.size + 1) s.heap.objs.size 0 .none := by
    have z := Heap.get?_push_size (s.heap.push (tupIt t)) (o := enumOb s.heap.objs.size) rfl
    rw [hz] at z
    exact z
  refine callType_new F.called_enumerate (by decide) (F.typeCall_enumerate_1 _) (F.newCall_enumerate_1 _)
    (fun obj => F.args_object_init_2 obj _) F.entry_enumerate_new (new_enumT t vs n dd zs) ⟨ht, ?_⟩
  show _ ∧ _
  rw [hz]
  exact ⟨⟨_, he, rfl⟩, k _ he ⟨_, Heap.get?_push_of_some _ (Heap.get?_push_size _ rfl), rfl, rfl⟩ (by rw [Heap.size_push, hz]) fun b o x => Heap.get?_push_of_some _ (Heap.get?_push_of_some _ x)⟩
end
/-- the tuple at a, each item in a new pair -/
def ItEt (K : PySem.W.Frag) (a : Addr) : It :=
  ⟨fun i H => ∃ (xs : List V) (x : V), SqT K H a xs ∧ xs[i]? = some x, fun i H v H' => ∃ T x, v = .ref T ∧ H T = none ∧ H' = upd H T (.tup [.int (i : Nat), x]) ∧ ∀ xs, SqT K H a xs → xs[i]? = some x, fun i H => ∃ xs : List V, SqT K H a xs ∧ xs.length ≤ i⟩
theorem turn_enumT {P : Program} {w : World} {K : PySem.W.Frag} {elts : List Expr} {kk : Nat} {tpos : Pos} (a e j : Addr) :
    Turn P w K (.Tuple elts kk tpos) (ItEt K a) [e, j] e (fun i h => (∃ old, IsEnum h e j ((i : Nat) : Int) old) ∧ h.IsTupleIter j a i ∧ e ≠ j) where
  mem := by simp
  obj := fun i h z b hb => by
    obtain ⟨⟨old, he⟩, ⟨o, ho, hc, hd⟩, _⟩ := z
    have eb : b = e ∨ b = j := by simpa using hb
    rcases eb with rfl | rfl
    · exact ⟨_, he, fun v q => nomatch q⟩
    · exact ⟨o, ho, fun v q => by rw [hd] at q; cases q⟩
  keep := fun i h h' z f => let ⟨⟨old, he⟩, hi, ne⟩ := z; ⟨⟨old, f e (by simp) _ he⟩, hi.at fun o q => f j (by simp) o q, ne⟩
  item := by
    intro X hP hw hK hc i pins s σ H E I hf z hg
    subst hP hw hK
    obtain ⟨⟨old, he⟩, hit, ne⟩ := z
    obtain ⟨xs, x, hq, hx⟩ := hg
    obtain ⟨us, rv, p, hz⟩ := I.tuple hq
    have pT : s.heap.IsTuple a us.toArray := p
    have l1 : e < s.heap.objs.size := Heap.lt_size he
    have l2 : j < s.heap.objs.size := by obtain ⟨_, y, _⟩ := hit; exact Heap.lt_size y
    have hlt : i < us.toArray.size := by
      have := (List.getElem?_eq_some_iff.mp hx).1
      rw [List.size_toArray, ← rv.length]
      exact this
    have haj : a ≠ j := fun y => by
      subst y
      obtain ⟨o, h1, c1, _⟩ := hit
      obtain ⟨o', h2, c2, _⟩ := pT
      rw [h1] at h2
      cases h2
      rw [c1] at c2
      injection c2 with y
      exact absurd y (by decide)
    have hea : e ≠ a := fun y => by
      subst y
      obtain ⟨o', h2, c2, _⟩ := pT
      rw [show s.heap.get? e = _ from he] at h2
      cases h2
      injection c2 with y
      exact absurd y (by decide)
    refine wpAny_pyNext_enum_itemD (drawsT (by first | exact I.ok.hd hc | exact (I.ok.hd hc)) j a haj us.toArray) he ⟨hit, pT⟩ hlt ne (by
      intro y
      rcases List.mem_cons.mp y with y | y
      · exact ne y
      · exact hea (by simpa using y)) fun u h' tk hu ho hst hT hsz hk => ?_
    obtain ⟨hit', _⟩ := hst
    have ru : RelV x u := by
      obtain ⟨u', hu', ru⟩ := rv.get hx
      have e1 : us[i]? = some u := by simpa using hu
      rw [e1] at hu'
      cases hu'
      exact ru
    refine ⟨_, rfl, wpAny_letOwnedTupleGo_enum (s := { s with heap := h', toks := tk + 1 }) ho fun h2 he2 sb => ?_⟩
    have hT2 : h2.get? s.heap.objs.size = some { cls := .type "tuple", data := .seq #[.int i tk, u] } := (sb.2 _ (Nat.ne_of_gt l1)).trans hT
    have nw : ObjOk X.prog X.w (upd H s.heap.objs.size (.tup [.int (i : Nat), x])) h2 s.heap.objs.size (.tup [.int (i : Nat), x]) :=
      ⟨(by decide : 2 ≤ sizeLine), [.int i tk, u], .cons ⟨_, rfl⟩ (.cons ru .nil), ⟨_, hT2, rfl, _, rfl⟩⟩
    have I1 : Inv X pins σ (upd H s.heap.objs.size (.tup [.int (i : Nat), x])) { s with heap := h2, toks := tk + 1 } :=
      I.turnedNew (ch := [e, j]) (fun b o hb y => (sb.2 b (fun r => hb (by simp [r]))).trans (hk b o (fun r => hb (by simp [r])) (fun r => hb (by simp [r])) y)) hf (Nat.le_refl _) nw
    refine ⟨.ref s.heap.objs.size, _, I1, rfl, ⟨_, x, rfl, I.hok.fresh (Nat.le_refl _), rfl, fun ys hy => by rw [I.tuple_inj hy hq]; exact hx⟩, ⟨⟨u, ?_⟩, hit'.at fun o y => (sb.2 j (Ne.symm ne)).trans y, ne⟩, fun b hb => ?_⟩
    · rw [show ((i + 1 : Nat) : Int) = (i : Int) + 1 by omega]
      exact he2
    · have eb : b = e ∨ b = j := by simpa using hb
      have lb : b < s.heap.objs.size := by rcases eb with r | r <;> rw [r] <;> assumption
      rw [upd_ne (Nat.ne_of_lt lb)]
      exact (hf b hb).1
  done := by
    intro X hP hw hK hc i pins s σ H E I hf z hg
    subst hP hw hK
    obtain ⟨⟨old, he⟩, hit, ne⟩ := z
    obtain ⟨xs, hq, hx⟩ := hg
    obtain ⟨us, rv, p, hz⟩ := I.tuple hq
    have pT : s.heap.IsTuple a us.toArray := p
    obtain ⟨f0, f1, f2, f3, f4, f5⟩ := hf j (by simp)
    have haj : a ≠ j := fun y => by
      subst y
      obtain ⟨o, h1, c1, _⟩ := hit
      obtain ⟨o', h2, c2, _⟩ := pT
      rw [h1] at h2
      cases h2
      rw [c1] at c2
      injection c2 with y
      exact absurd y (by decide)
    have hl := rv.length
    exact wpAny_pyNext_enum_endD (drawsEnd (B := X.A.in1) (by exact I.ok.hd hc) j a us.toArray i (by simp; omega)) he ⟨hit, pT⟩ fun h' eb => ⟨rfl, I.turned (t' := s.toks) (fun b o hb y => eb b o hb y) f0 f1 f3 f4 f5⟩
  self := fun A i s Q E z h => let ⟨⟨_, he⟩, _⟩ := z; wpAny_pyIter_enum he h
/-! over data -/
def iEnumA (K : PySem.W.Frag) (ta : TA) : TI := fun σ H R => ta σ H fun vs H1 => ∃ a, vs = [.ref a] ∧ ((∃ xs, SqL K H1 a xs ∧ R (Ite K a) H1) ∨ ∃ xs, SqT K H1 a xs ∧ R (ItEt K a) H1)
theorem pi_enumA {X : Cx} {e : Expr} {ta : TA} {p pos tpos : Pos} {elts : List Expr} {kk : Nat} (hm : X.mg "enumerate" = none) (ha : PA X [e] ta) (hg : Gl X "enumerate") (hs : starEach [e] X.env = [(false, eval e X.env)]) :
    PI X (.Tuple elts kk tpos) (.Call (.Name "enumerate" p) [e] [] pos) (iEnumA X.K ta) := by
  refine ⟨fun pins s σ H R I h => ?_⟩
  refine Call_ (ld_blt I hg hm boot_enumerate (callWith_type1 (thn (ha.run pos pins s σ H _ I h) fun us s1 ⟨vs, H1, I1, r1, a, ev, q1⟩ => ?_) hs rfl))
  subst ev
  cases r1 with
  | cons r rr =>
    cases rr
    cases r
    have fp : ∀ b ∈ [s1.heap.objs.size + 1, s1.heap.objs.size], s1.heap.objs.size ≤ b := fun b hb => by
      have e' : b = s1.heap.objs.size + 1 ∨ b = s1.heap.objs.size := by simpa using hb
      rcases e' with z | z <;> omega
    rcases q1 with ⟨xs, hq, q⟩ | ⟨xs, hq, q⟩
    · obtain ⟨its, rv, p', hz⟩ := I1.list hq
      refine call_enumerate_list p'.isList fun h' he hit hsz hk => wpAny_pyIter_enum he ?_
      exact ⟨s1.heap.objs.size + 1, [s1.heap.objs.size + 1, s1.heap.objs.size], _, _, H1, rfl, I1.kept (t' := s1.toks) hk, turn_enum a _ _, ⟨⟨.none, he⟩, hit, Nat.succ_ne_self _⟩, fun b hb => I1.fpOk (fp b hb) (I1.hok.fresh (fp b hb)), q⟩
    · obtain ⟨its, rv, p', hz⟩ := I1.tuple hq
      refine call_enumT (show s1.heap.IsTuple a its.toArray from p') fun h' he hit hsz hk => wpAny_pyIter_enum he ?_
      exact ⟨s1.heap.objs.size + 1, [s1.heap.objs.size + 1, s1.heap.objs.size], _, _, H1, rfl, I1.kept (t' := s1.toks) hk, turn_enumT a _ _, ⟨⟨.none, he⟩, hit, Nat.succ_ne_self _⟩, fun b hb => I1.fpOk (fp b hb) (I1.hok.fresh (fp b hb)), q⟩
def itEnum (xs : List D) (gd : Mem → Prop) : Itm := ⟨xs.length, fun i => .tup [.int (i : Nat), (xs[i]?).getD .non], gd⟩
theorem itRep_enum {K : PySem.W.Frag} {S0 : Mark} {M : Mem} {H : Hp} {a : Addr} {xs : List D} {gd : Mem → Prop} (hg : ∀ (S1 : Mark) (M' : Mem) (H' : Hp), Mk S0 H S1 → MemOk K S1 M' H' → Ext M H M' H' → gd M' → ∃ vs, SqL K H' a vs ∧ Reps K (SM S1 M') H' vs xs) : ItRep K S0 M H (Ite K a) (itEnum xs gd) := by
  intro S1 M' H' mk m x g
  obtain ⟨vs, h1, h2⟩ := hg S1 M' H' mk m x g
  refine ⟨fun i hi => ?_, vs, h1, by rw [h2.length]; exact Nat.le_refl _⟩
  have hi' : i < xs.length := hi
  obtain ⟨v, e, r⟩ := h2.get (List.getElem?_eq_getElem hi')
  refine ⟨⟨vs, v, h1, e⟩, fun y H'' hy => ?_⟩
  obtain ⟨T, z, rfl, hT, rfl, f⟩ := hy
  have := f vs h1
  rw [e] at this
  cases this
  have m2 : MemOk K S1 M' (upd H' T (.tup [.int (i : Nat), v])) := m.new_imm hT
  have x2 : Ext M' H' M' (upd H' T (.tup [.int (i : Nat), v])) := .new_imm hT
  refine ⟨m2, x2, ?_⟩
  show Rep K _ _ _ (.tup [.int (i : Nat), (xs[i]?).getD .non])
  rw [List.getElem?_eq_getElem hi']
  exact .tup (.inl ⟨m.free hT, upd_same⟩) (.cons (.int _) (.cons (r.ext x2) .nil))
theorem itRep_enumT {K : PySem.W.Frag} {S0 : Mark} {M : Mem} {H : Hp} {a : Addr} {xs : List D} {gd : Mem → Prop} (hg : ∀ (S1 : Mark) (M' : Mem) (H' : Hp), Mk S0 H S1 → MemOk K S1 M' H' → Ext M H M' H' → gd M' → ∃ vs, SqT K H' a vs ∧ Reps K (SM S1 M') H' vs xs) : ItRep K S0 M H (ItEt K a) (itEnum xs gd) := by
  intro S1 M' H' mk m x g
  obtain ⟨vs, h1, h2⟩ := hg S1 M' H' mk m x g
  refine ⟨fun i hi => ?_, vs, h1, by rw [h2.length]; exact Nat.le_refl _⟩
  have hi' : i < xs.length := hi
  obtain ⟨v, e, r⟩ := h2.get (List.getElem?_eq_getElem hi')
  refine ⟨⟨vs, v, h1, e⟩, fun y H'' hy => ?_⟩
  obtain ⟨T, z, rfl, hT, rfl, f⟩ := hy
  have := f vs h1
  rw [e] at this
  cases this
  have m2 : MemOk K S1 M' (upd H' T (.tup [.int (i : Nat), v])) := m.new_imm hT
  have x2 : Ext M' H' M' (upd H' T (.tup [.int (i : Nat), v])) := .new_imm hT
  refine ⟨m2, x2, ?_⟩
  show Rep K _ _ _ (.tup [.int (i : Nat), (xs[i]?).getD .non])
  rw [List.getElem?_eq_getElem hi']
  exact .tup (.inl ⟨m.free hT, upd_same⟩) (.cons (.int _) (.cons (r.ext x2) .nil))
def enumI (w : D) (gd : Mem → Prop) (M : Mem) (RD : Itm → Mem → Prop) : Prop := match w with
  | .lst xs => RD (itEnum xs gd) M
  | .tup xs => RD (itEnum xs gd) M
  | .scr ns => RD (itEnum (ns.map .int) gd) M
  | _ => False
def diEnum (dr : DA) : DI := fun sl M ED RD => dr sl M ED fun ds M1 => ∃ d, ds = [d] ∧ vwG M1 d fun w gd => enumI w gd M1 RD
theorem di_enum {X : Cx} {E : L2.St → XK} {a : Expr} {dr : DA} {p pos tpos : Pos} {elts : List Expr} {kk : Nat} (hm : X.mg "enumerate" = none) (ha : DAx X E [a] dr) (hg : Gl X "enumerate" := by rfl) (hs : starEach [a] X.env = [(false, eval a X.env)] := by rfl) :
    DIx X E (.Tuple elts kk tpos) (.Call (.Name "enumerate" p) [a] [] pos) (diEnum dr) := by
  obtain ⟨t, q, s⟩ := ha
  refine ⟨_, pi_enumA hm q hg hs, fun S0 sl M σ H R RD ED k xl hd l => s S0 sl M σ H _ _ ED k xl hd fun ds M1 vs H1 m1 x1 r1 q1 => ?_⟩
  obtain ⟨d, rfl, q1⟩ := q1
  cases r1 with
  | cons r1 rr =>
  cases rr
  rename_i v
  have imm : ∀ w, Rep X.K (SM S0 M1) H1 v w → enumI w (fun _ => True) M1 RD → ∃ a, [v] = [V.ref a] ∧ ((∃ xs, SqL X.K H1 a xs ∧ R (Ite X.K a) H1) ∨ ∃ xs, SqT X.K H1 a xs ∧ R (ItEt X.K a) H1) := fun w r q => by
    cases w with
    | lst xs =>
      cases r with
      | lst h1 h2 h3 => exact ⟨_, rfl, .inl ⟨_, .inl (.inl h2), l _ M1 _ H1 m1 x1 (itRep_enum fun S1 M' H' mk m x g => ⟨_, .inl (.inl (x.keep _ _ h2 fun z => h1 (.inr z))), Reps.mono (x.kpM mk) _ _ h3⟩) q⟩⟩
    | scr ns =>
      cases r with
      | scr h1 => exact ⟨_, rfl, .inl ⟨_, h1.sq, l _ M1 _ H1 m1 x1 (itRep_enum fun S1 M' H' mk m x g => ⟨_, (h1.mono (x.kpM mk)).sq, .ints _⟩) q⟩⟩
    | tup xs =>
      cases r with
      | tup h1 h3 => exact ⟨_, rfl, .inr ⟨_, h1.sq, l _ M1 _ H1 m1 x1 (itRep_enumT fun S1 M' H' mk m x g => ⟨_, (h1.mono (x.kpM mk)).sq, Reps.mono (x.kpM mk) _ _ h3⟩) q⟩⟩
    | _ => exact q.elim
  cases d with
  | ref p =>
    obtain ⟨j, n, e, q⟩ := q1
    cases r1
    obtain g := m1.at_ _ (List.mem_of_getElem? e)
    cases n with
    | lst xs =>
      obtain ⟨vs, h1, h2⟩ := g
      refine ⟨p, rfl, .inl ⟨vs, .inl (.inl h1), l _ M1 _ H1 m1 x1 (itRep_enum fun S1 M' H' mk m x gd => ?_) q⟩⟩
      obtain ⟨vs', h1', h2'⟩ := m.at_ _ (List.mem_of_getElem? gd)
      exact ⟨vs', .inl (.inl h1'), h2'⟩
    | _ => exact q.elim
  | _ => exact imm _ r1 q1
end OD

/-! OD11: objects of own classes: fields, making, methods; is None. -/
namespace OD
open PySem PySem.Spec L2
section
variable {K : PySem.W.Frag} {S : Mark} {H : Hp}
theorem RepsF.look {f : Str} {d : D} : ∀ {fs : List (Str × D)} {ws : List (Str × V)}, RepsF K S H ws fs → fs.lookup f = some d → ∃ v, ws.lookup f = some v ∧ Rep K S H v d := by
  intro fs
  induction fs with
  | nil => intro ws h e; cases e
  | cons p r ih =>
    intro ws h e
    cases h with
    | @cons k v ws' d' ds' a b =>
      rw [List.lookup_cons] at e ⊢
      cases hk : f == k with
      | true => rw [hk] at e; cases e; exact ⟨v, rfl, a⟩
      | false => rw [hk] at e; exact ih b e
theorem RepsF.miss {f : Str} : ∀ {fs : List (Str × D)} {ws : List (Str × V)}, RepsF K S H ws fs → fs.lookup f = none → ws.lookup f = none := by
  intro fs
  induction fs with
  | nil => intro ws h e; cases h; rfl
  | cons p r ih =>
    intro ws h e
    cases h with
    | @cons k v ws' d' ds' a b =>
      rw [List.lookup_cons] at e ⊢
      cases hk : f == k with
      | true => rw [hk] at e; cases e
      | false => rw [hk] at e; exact ih b e
theorem RepsF.length : ∀ {fs : List (Str × D)} {ws : List (Str × V)}, RepsF K S H ws fs → ws.length = fs.length := by
  intro fs
  induction fs with
  | nil => intro ws h; cases h; rfl
  | cons p r ih =>
    intro ws h
    cases h with
    | cons a b => rw [List.length_cons, List.length_cons, ih b]
def putFD (f : Str) (v : D) : List (Str × D) → List (Str × D)
  | [] => [(f, v)]
  | (g, x) :: r => if g = f then (g, v) :: r else (g, x) :: putFD f v r
theorem RepsF.put {f : Str} {v : V} {d : D} (r : Rep K S H v d) : ∀ {fs : List (Str × D)} {ws : List (Str × V)}, RepsF K S H ws fs → RepsF K S H (putF f v ws) (putFD f d fs) := by
  intro fs
  induction fs with
  | nil => intro ws h; cases h; exact .cons r .nil
  | cons p q ih =>
    intro ws h
    cases h with
    | @cons k v' ws' d' ds' a b =>
      unfold putF putFD
      by_cases e : k = f
      · rw [if_pos e, if_pos e]; exact .cons r b
      · rw [if_neg e, if_neg e]; exact .cons a (ih b)
end
/-! ### fields -/
def dFld (P : Addr → Prop) (f : Str) (da : DE) : DE := fun sl M ED Q => da sl M ED fun x M1 => vw M1 x fun y => ∃ C fs d, y = .obj C fs ∧ P C ∧ fs.lookup f = some d ∧ Q d M1
section
variable {X : Cx} {E : L2.St → XK} {K : PySem.W.Frag} {a e o value : Expr} {es : List Expr} {pos p pos' apos : Pos} {da dv : DE} {dr : DA} {f m : Str}
theorem de_fld {P : Addr → Prop} (hP : ∀ C, P C → Cls X.K C ∧ NoAttr X.K C f) (h : DEx X E e da) (hb : attributeBase e f X.env (eval e X.env) = eval e X.env := by rfl) : DEx X E (.Attribute e f pos) (dFld P f da) := by
  obtain ⟨t, p, s⟩ := h
  refine ⟨_, pe_fld p hb, fun S0 sl M σ H Q QD ED k xl hd l => s S0 sl M σ H _ _ ED k xl hd fun d M1 x H1 m1 x1 r1 q1 => ?_⟩
  obtain ⟨w, ⟨C, fs, y, rfl, hC, hl, q⟩, r⟩ := vw_of m1 r1 q1
  obtain ⟨c, n⟩ := hP C hC
  cases r with
  | imm r =>
    cases r with
    | obj h1 h2 h3 =>
      obtain ⟨v, e1, r2⟩ := h3.look hl
      exact ⟨_, C, _, _, v, rfl, h2, c, n, e1, l y M1 v H1 m1 x1 r2 q⟩
  | obj h2 h3 =>
    obtain ⟨v, e1, r2⟩ := h3.look hl
    exact ⟨_, C, _, _, v, rfl, h2, c, n, e1, l y M1 v H1 m1 x1 r2 q⟩
/-- o.f = value -/
def dSetF (P : Addr → Prop) (f : Str) (dv da : DE) : DS := fun Dd sl M => dv sl M (Dd.ex sl) fun v M1 => da sl M1 (Dd.ex sl) fun x M2 => mutN M2 x fun n wr => ∃ C dx fs, n = .ins C dx fs ∧ P C ∧ fs.length < 1000 ∧ Dd.nx sl (wr (.ins C dx (putFD f v fs)))
theorem ds_setF {P : Addr → Prop} (hP : ∀ C, P C → Cls X.K C ∧ NoAttr X.K C f) (hv : DEx X E value dv) (ha : DEx X E o da) (hs : swapsWith value (some (.Attribute o f pos')) pos.line X.env = pure false := by rfl) : DSx X E (.Assign [.Attribute o f pos'] value pos) (dSetF P f dv da) := by
  obtain ⟨tv, pv', sv⟩ := hv
  obtain ⟨t, p, s⟩ := ha
  refine ⟨_, ps_fld p pv' hs, fun S0 sl M σ H Dd Dn k l h => sv S0 sl M σ H _ _ _ k (l.xl k) h fun d M1 y H1 m1 x1 r1 q1 => ?_⟩
  have k1 := k.ext m1 x1
  refine s S0 sl M1 σ H1 _ _ _ k1 ((l.xl k).ext x1) q1 fun d2 M2 x H2 m2 x2 r2 q2 => ?_
  unfold mutN at q2
  cases d2 with
  | ref b =>
    obtain ⟨j, n, e, C, dx, fs, rfl, hC, hl, q⟩ := q2
    cases r2
    obtain ⟨ws, h1, h2⟩ := m2.at_ _ (List.mem_of_getElem? e)
    obtain ⟨c, nn⟩ := hP C hC
    have x3 : Ext M2 H2 (M2.set j (b, .ins C dx (putFD f d fs))) (upd H2 b (.ins C dx (putF f y ws))) := .write e
    have kp : Kp (SM S0 M2) H2 (SM S0 M2) (upd H2 b (.ins C dx (putF f y ws))) := by
      have := x3.kp (S0 := S0)
      rwa [SM_keys (keys_set e)] at this
    have m3 : MemOk X.K S0 (M2.set j (b, .ins C dx (putFD f d fs))) (upd H2 b (.ins C dx (putF f y ws))) := m2.write e ⟨_, upd_same, RepsF.put (Rep.mono kp _ _ (r1.ext x2)) (RepsF.mono kp _ _ h2)⟩
    refine ⟨b, C, dx, ws, rfl, h1, c, nn, by rw [h2.length]; exact hl, l.nx sl _ σ _ (k1.ext m3 (x2.trans x3)) (x1.trans (x2.trans x3)) q⟩
  | _ => exact q2.elim
/-! ### making -/
/-- a class whose __init__ keeps a promise -/
structure MkOk (P : Program) (w : World) (K : PySem.W.Frag) (mg : Str → Option Value) (base : Heap) (k : Nat) (x : Str) (C : Addr) (ps : List Str) (F : FD) : Prop where
  ex : ∃ (f : Addr) (fd : FuncData), mg x = some (.ref C) ∧ L2.Mk K C f ∧ Binds K fd ps [] ∧ FnOk P w K mg base CX0 k f fd ps (spD K F)
def dMake (C : Addr) (F : FD) (ks : List Nat) (o : Bool) (dr : DA) : DE := fun sl M ED Q => dr sl M ED fun ds M1 => (sel ks M1).length = ks.length ∧ ∀ x dx, x ∉ keys M1 →
  F (.ref x :: ds) (sel (M1.length :: ks) (M1 ++ [(x, .ins C dx [])])) (fun _ _ _ => False) fun d Mc => d = .non ∧ frzD (!o) (.ref x) (putM (M1.length :: ks) (M1 ++ [(x, .ins C dx [])]) Mc) Q
theorem sel_new {ks : List Nat} {M : Mem} {n : Addr × N} (h : (sel ks M).length = ks.length) : sel (M.length :: ks) (M ++ [n]) = n :: sel ks M := by
  rw [sel_cons, List.getElem?_append_right (Nat.le_refl _), Nat.sub_self]
  show n :: sel ks (M ++ [n]) = _
  congr 1
  unfold sel
  exact filterMap_eq fun k hk => List.getElem?_append_left (sel_at h k hk)
theorem sim_make {C : Addr} {F : FD} {ks : List Nat} {o : Bool} {t : TA} (hk : ks.Nodup) (s : SimA K E t dr) : SimE K E (tMake C (spD K F) [] E0 t) (dMake C F ks o dr) := by
  intro S0 sl M σ H Q QD ED k xl hd l
  refine s S0 sl M σ H _ _ ED k xl hd fun ds M1 vs H1 m1 x1 r1 q1 => ?_
  obtain ⟨hl, q1⟩ := q1
  intro x dx hx hdx hne
  have m2 : MemOk K S0 M1 (upd H1 dx (.own x)) := m1.new_imm hdx
  have hx2 : (upd H1 dx (.own x)) x = none := by rw [upd_ne (Ne.symm hne)]; exact hx
  have x2 : Ext M1 H1 M1 (upd H1 dx (.own x)) := .new_imm hdx
  have m3 : MemOk K S0 (M1 ++ [(x, .ins C dx [])]) (upd (upd H1 dx (.own x)) x (.ins C dx [])) := m2.new_own hx2 ⟨[], upd_same, .nil⟩
  have x3 : Ext M1 H1 (M1 ++ [(x, .ins C dx [])]) (upd (upd H1 dx (.own x)) x (.ins C dx [])) := x2.trans (.new_own hx2)
  have nk : x ∉ keys M1 := m1.notKey hx
  have hk2 : (M1.length :: ks).Nodup := List.nodup_cons.mpr ⟨fun z => absurd (sel_at hl _ z) (Nat.lt_irrefl _), hk⟩
  have hl2 : (sel (M1.length :: ks) (M1 ++ [(x, .ins C dx [])])).length = (M1.length :: ks).length := by rw [sel_new hl, List.length_cons, List.length_cons, hl]
  rw [List.append_nil]
  refine ⟨mk0 S0 (M1.length :: ks) (M1 ++ [(x, .ins C dx [])]), .ref x :: ds, _, _, _, m3.sel hk2, by rw [mk0_sm]; exact .cons (.ref _) (r1.ext x3), q1 x dx nk, fun d M' v H' m' x' pr r' q' => ?_, fun cls fs M' dd H' m' x' pr r' q' => q'.elim⟩
  obtain ⟨rfl, q'⟩ := q'
  cases r'
  obtain ⟨g1, g2, g3⟩ := put_back m3 hk2 hl2 m' x' pr
  exact ⟨rfl, frzD_ok g1 (.ref _) q' (l.ext (x1.trans (x3.trans g2)))⟩
theorem de_make {k : Nat} {x : Str} {C : Addr} {ps : List Str} {F : FD} (c : MkOk X.prog X.w X.K X.mg X.base k x C ps F) (hr : Room (k + 1) X.A) (ks : List Nat) (o : Bool) (ha : DAx X E (a :: es) dr) (hk : ks.Nodup := by decide) (hg : Gl X x := by rfl) (hdb : (x == ("__debug__" : Str)) = false := by decide)
    (he : starEach (a :: es) X.env = (false, eval a X.env) :: starEach es X.env := by rfl) (hpl : (backTo pos (starEach es X.env)).any (·.1) = false := by rfl) : DEx X E (.Call (.Name x p) (a :: es) [] pos) (dMake C F ks o dr) := by
  obtain ⟨f, fd, hm, M, hb, G⟩ := c
  obtain ⟨t, pa, s⟩ := ha
  exact ⟨_, pe_make M G hr hg hm hb .nil pass0 pa hdb he hpl, sim_make hk s⟩
/-! ### methods -/
structure MethOk (P : Program) (w : World) (K : PySem.W.Frag) (mg : Str → Option Value) (base : Heap) (k : Nat) (C : Addr) (m : Str) (ps : List Str) (F : FD) : Prop where
  ex : ∃ (f : Addr) (fd : FuncData), Cls K C ∧ Meth K C m f ∧ Binds K fd ps [] ∧ FnOk P w K mg base CX0 k f fd ps (spD K F)
def dMethO (C : Addr) (m : Str) (F : FD) (ks : List Nat) (da : DE) (dr : DA) : DE := fun sl M ED Q => da sl M ED fun x M1 => vw M1 x fun y => ∃ fs, y = .obj C fs ∧ fs.lookup m = none ∧ dr sl M1 ED fun ds M2 => (sel ks M2).length = ks.length ∧ F (x :: ds) (sel ks M2) (fun _ _ _ => False) fun d Mc => Q d (putM ks M2 Mc)
theorem sim_methO {C : Addr} {F : FD} {ks : List Nat} {ta : TE} {t : TA} (hk : ks.Nodup) (sa : SimE K E ta da) (s : SimA K E t dr) : SimE K E (tMeth C m (spD K F) [] E0 ta t) (dMethO C m F ks da dr) := by
  intro S0 sl M σ H Q QD ED k xl hd l
  refine sa S0 sl M σ H _ _ ED k xl hd fun d M1 x H1 m1 x1 r1 q1 => ?_
  obtain ⟨w, ⟨fs, rfl, hl, q⟩, r⟩ := vw_of m1 r1 q1
  have fin : ∀ b dx ws, x = V.ref b → H1 b = some (.ins C dx ws) → RepsF K (SM S0 M1) H1 ws fs → ∃ b dx ws, x = V.ref b ∧ H1 b = some (.ins C dx ws) ∧ ws.lookup m = none ∧ t σ H1 fun vs H2 => spD K F (x :: (vs ++ [])) H2 Q E0 := fun b dx ws ex h1 h2 => by
    refine ⟨b, dx, ws, ex, h1, h2.miss hl, s S0 sl M1 σ H1 _ _ ED (k.ext m1 x1) (xl.ext x1) q fun ds M2 vs H2 m2 x2 r2 q2 => ?_⟩
    obtain ⟨hl2, q2⟩ := q2
    rw [List.append_nil]
    refine ⟨mk0 S0 ks M2, d :: ds, sel ks M2, _, _, m2.sel hk, by rw [mk0_sm]; exact .cons (r1.ext x2) r2, q2, fun d M' v H' m' x' pr r' q' => ?_, fun cls fs M' dd H' m' x' pr r' q' => q'.elim⟩
    obtain ⟨g1, g2, g3⟩ := put_back m2 hk hl2 m' x' pr
    exact l d _ v H' g1 ((x1.trans x2).trans g2) (by rw [g3]; exact r') q'
  cases r with
  | imm r => cases r with
    | obj h1 h2 h3 => exact fin _ _ _ rfl h2 h3
  | obj h2 h3 => exact fin _ _ _ rfl h2 h3
/-! ### is None -/
def isNonD : D → Bool
  | .non => true
  | _ => false
def isND (n : Bool) : D → D → Mem → DK → Prop := fun x y M Q => y = .non ∧ Q (.bl (xorB n (isNonD x))) M
theorem isNon_of {S : Mark} {H : Hp} {v : V} {d : D} (r : RepT K S H v d) : decide (v = .non) = isNonD d := by
  cases r with
  | imm r => cases r <;> rfl
  | _ => rfl
theorem sv_isN : SimV2 K (fun x y H Q => y = .non ∧ Q (.bl (decide (x = .non))) H) (isND false) := by
  intro S0 M H x y dx dy Q QD m rx ry h l
  obtain ⟨rfl, q⟩ := h
  refine ⟨?_, ?_⟩
  · cases ry with
    | imm r => cases r; rfl
  · rw [isNon_of rx]
    exact l.now m (.bl _) q
theorem sv_notN : SimV2 K (fun x y H Q => y = .non ∧ Q (.bl (!decide (x = .non))) H) (isND true) := by
  intro S0 M H x y dx dy Q QD m rx ry h l
  obtain ⟨rfl, q⟩ := h
  refine ⟨?_, ?_⟩
  · cases ry with
    | imm r => cases r; rfl
  · rw [isNon_of rx]
    refine l.now m (.bl _) ?_
    have e : (!isNonD dx) = xorB true (isNonD dx) := by cases isNonD dx <;> rfl
    rw [e]
    exact q
end
end OD

/-! OD13: == and != of objects by an own __eq__. -/
namespace OD
open PySem PySem.Spec L2 PyProof.Rows
section
variable {prog : Program} {w : World} {M : Model} {A : Around} {E : Value → Shared → Prop} {s : Shared} {K : PySem.W.Frag} {x C f : Addr} {ox : Obj} {od : Option Obj} {y : Value}
/-- what a class must have for != by its __eq__ -/
structure NeOk (K : PySem.W.Frag) (C f : Addr) : Prop where
  eq : PySem.W.findIn K (.ref C) "__eq__" = some (some (.ref f))
  fn : PySem.W.isFn K (.ref f) = true
  ne : PySem.W.findIn K (.ref C) "__ne__" = some (some (.builtin "object.__ne__"))
  ob : PySem.W.mroIn K C (.type "object") = some true
theorem ne_body (hu : A.units < cLine) (X : K.In s.heap) (I : PySem.W.InstAt s.heap x ox C od) (c : NeOk K C f) {Q : Fin → Shared → Prop}
    (h : wpAny (model prog w) A (call (.ref f) [.ref x, y]) (fun v s' => ∃ b, v = .bool b ∧ Q (.done (.ret (.bool (!b)))) s') E s) : wpAny (model prog w) A (Builtin.«object.__ne__» ⟨[.ref x, y], []⟩) Q E s := by
  unfold Builtin.«object.__ne__»
  repeat (first
    | with_reducible refine wpAny_cRoomFor hu ?_
    | (refine wpAny_bind (m := callSpecialIfBound? (.ref x) (Str.ofString "__eq__") [y])
        (PySem.W.ifBound_K X I c.eq c.fn (wpAny_mono h (fun r s' hr => by
          obtain ⟨b, rfl, hq⟩ := hr
          repeat (first | exact hq | exact wpAny_pure hq | exact wpAny_truthy_bool hq | (refine wpAny_bind (m := truthy (.bool _)) (wpAny_truthy_bool ?_)) | wp_step)) fun _ _ e => e)))
    | wp_step)
theorem ne_bound (X : K.In s.heap) (I : PySem.W.InstAt s.heap x ox C od) (c : NeOk K C f) {args : List Value} {Q : Option Value → Shared → Prop}
    (h : wpAny M A (call (.builtin "object.__ne__") (.ref x :: args)) (fun v => Q (some v)) E s) : wpAny M A (callSpecialIfBound? (.ref x) "__ne__" args) Q E s := by
  simp only [callSpecialIfBound?, bindSpecialIfBound?]
  refine wpAny_holding (wpAny_bind (wpAny_bind (wpAny_bind (I.type.here ((PySem.W.looks_findIn X c.ne).here ?_)))))
  refine wpAny_bind (wpAny_askSetting (wpAny_ite ?_))
  have z : wpAny M A (call (.builtin "object.__ne__") ([.ref x] ++ args) >>= fun v => pure (some v)) Q E s := wpAny_bind (wpAny_mono h (fun v s' q => wpAny_pure q) fun _ _ q => q)
  split
  · exact wpAny_bind (wpAny_of_eq (F.cmp_object.ne.bind _) (wpAny_pure (by exact z)))
  · exact wpAny_tryCatch (wpAny_bind (wpAny_of_eq (F.cmp_object.ne.bind _) (wpAny_pure (by exact z))))
theorem ne_rich {h0 : Heap} {L : Addr} {m : Str → Option Value} {tb : Value} {Q : Value → Shared → Prop} (hu : A.units + 1 < cLine) (X : K.In s.heap) (I : PySem.W.InstAt s.heap x ox C od) (c : NeOk K C f) (hb : PySem.W.Looks (model prog w) s.heap (typeOf y) tb) (hn : PySem.W.notFirst K C tb = true)
    (h : wpAny (model prog w) A.in1 (call (.ref f) [.ref x, y]) (fun v s' => ∃ b, v = .bool b ∧ Q (.bool (!b)) s') E s) : wpAny (model prog w) A (richCompare .NotEq (.ref x) y) Q E s := by
  have one : wpAny (model prog w) A (tryCompare (.ref x) (cmpInfo .NotEq).2.1 y) (fun r s' => ∃ v, r = some v ∧ Q v s') E s := by
    unfold tryCompare
    refine wpAny_bind (ne_bound X I c (wpAny_call (codeAny_call_builtin F.cmp_object.ne.plain F.cmpEntry_ne (PySem.W.check_slot F.cmpKind_ne F.cmpSplit_ne (I.type.andThen (PySem.W.looks_mroIn X c.ob)) (F.cmpArgs_ne _ _) (ne_body (A := A.in1) hu X I c (wpAny_mono h (fun v s' hv => ?_) fun _ _ e => e))))))
    obtain ⟨b, rfl, q⟩ := hv
    exact ⟨b, rfl, wpAny_pure ⟨_, rfl, q⟩⟩
  unfold richCompare
  simp only [oneThing_ref]
  refine wpAny_holding (wpAny_bind (wpAny_cRoomFor (Nat.lt_of_succ_lt hu) ?_))
  refine wpAny_bind (I.type.here (wpAny_bind (hb.here ?_)))
  have fin : ∀ (g : Option Value → Sem Value), (∀ v, g (some v) = pure v) → wpAny (model prog w) A (tryCompare (.ref x) (cmpInfo .NotEq).2.1 y >>= g) Q E s := fun g hg => wpAny_bind (wpAny_mono one (fun r s' z => by
    obtain ⟨v, rfl, q⟩ := z
    show wpAny (model prog w) A (g (some v)) Q E s'
    rw [hg v]
    exact wpAny_pure q) fun _ _ e => e)
  split
  · rename_i q
    have e : PySem.W.subIn K tb (.ref C) = some false := by
      rcases Bool.or_eq_true_iff.mp hn with e | e
      · rw [beq_iff_eq.mp e] at q
        simp at q
      · exact beq_iff_eq.mp e
    refine wpAny_bind ((PySem.W.looks_subIn X e).here ?_)
    simp only [Bool.false_eq_true, if_false]
    exact fin _ fun v => rfl
  · refine wpAny_bind (wpAny_pure ?_)
    simp only [Bool.false_eq_true, if_false]
    exact fin _ fun v => rfl
end
section
variable {X : Cx} {pins : List (Addr × Obj)} {σ : L2.St} {H : Hp} {s : Shared} {k : Nat} {f : Addr} {fd : FuncData} {ps : List Str} {sp : Sp}
/-- a def runs, called from a C slot within this body -/
theorem run_at {A : Around} (hA : A.frames = X.A.frames) (G : FnOk X.prog X.w X.K X.mg X.base CX0 k f fd ps sp) (hr : Room k A) (hb : Binds X.K fd ps []) (I : Inv X pins σ H s) {us : List Value} {vs : List V} {Q : VK} (r : Vals vs us) (h : sp vs H Q E0) :
    wpAny (model X.prog X.w) A (call (.ref f) us) (EP X pins σ Q) X.xe s := by
  have e0 : Env0 X.prog X.w X.K X.mg X.base A X.stack s H := by
    have e := I.env0
    exact ⟨by rw [hA]; exact e.frames, e.mod, e.bs, e.bsz, e.funs, e.frf, e.hok, e.bare⟩
  have hl := G.len _ _ _ _ h
  refine wpAny_call (codeAny_mono (G.run A X.stack s H ⟨us, []⟩ us vs Q E0 hr e0 (by
    have z := hb s us I.kIn (by rw [List.append_nil, ← r.length]; exact hl)
    rw [List.append_nil] at z
    exact z) r h) fun r s' hq => ?_)
  cases r with
  | error e => exact pass0 pins σ H s e s' I hq
  | ok fl =>
    cases fl with
    | ret w => exact I.after hq
    | next => exact False.elim hq
    | brk => exact False.elim hq
    | cont => exact False.elim hq
/-- the classes whose objects are compared, their __eq__ and what it promises -/
structure EqOk (P : Program) (w : World) (K : PySem.W.Frag) (mg : Str → Option Value) (base : Heap) (k : Nat) (PC : Addr → Addr → Prop) (F : FD) : Prop where
  ex : ∃ (f : Addr) (fd : FuncData) (ps : List Str), (∀ C C', PC C C' → NeOk K C f ∧ PySem.W.notFirst K C (.ref C') = true) ∧ Binds K fd ps [] ∧ FnOk P w K mg base CX0 k f fd ps (spD K F)
def rEqO (PC : Addr → Addr → Prop) (sp : Sp) (n : Bool) : R2 := fun x y H Q => ∃ a b C dx fs C' dy gs, x = .ref a ∧ y = .ref b ∧ H a = some (.ins C dx fs) ∧ H b = some (.ins C' dy gs) ∧ PC C C' ∧ sp [.ref a, .ref b] H (fun v H' => ∃ c, v = .bl c ∧ Q (.bl (xorB n c)) H') E0
theorem op_eqO {PC : Addr → Addr → Prop} (hc : ∀ C C', PC C C' → NeOk X.K C f ∧ PySem.W.notFirst X.K C (.ref C') = true) (hb : Binds X.K fd ps []) (G : FnOk X.prog X.w X.K X.mg X.base CX0 k f fd ps sp) (hr : Room (k + 1) X.A) : OpR X (compareOp .Eq) (rEqO PC sp false) := by
  intro pins s σ H x y v u Q I rx ry h
  obtain ⟨a, b, C, dx, fs, C', dy, gs, rfl, rfl, ha, hb', hC, h⟩ := h
  cases rx
  cases ry
  obtain ⟨c, nf⟩ := hc C C' hC
  obtain ⟨mA, J, _⟩ := ins_get I.hok ha
  obtain ⟨mB, J', _⟩ := ins_get I.hok hb'
  obtain ⟨od, J, _⟩ := J.look
  obtain ⟨od', J', _⟩ := J'.look
  obtain ⟨m, hF⟩ := I.fr
  refine PySem.W.cmp_K (op := .Eq) (tb := .ref C') hr.units0 hF I.ok.mod.kin J J'.type nf c.eq c.fn ?_
  refine wpAny_mono (run_at (A := X.A) rfl G (hr.mono (by omega)) hb I (vs := [V.ref a, V.ref b]) (.cons rfl (.cons rfl .nil)) h) (fun u s' hq => ?_) fun _ _ e => e
  obtain ⟨z, H', I', rz, cc, rfl, q⟩ := hq
  cases rz
  exact ⟨.bl cc, H', I', rfl, q⟩
theorem op_neO {PC : Addr → Addr → Prop} (hc : ∀ C C', PC C C' → NeOk X.K C f ∧ PySem.W.notFirst X.K C (.ref C') = true) (hb : Binds X.K fd ps []) (G : FnOk X.prog X.w X.K X.mg X.base CX0 k f fd ps sp) (hr : Room (k + 1) X.A) : OpR X (compareOp .NotEq) (rEqO PC sp true) := by
  intro pins s σ H x y v u Q I rx ry h
  obtain ⟨a, b, C, dx, fs, C', dy, gs, rfl, rfl, ha, hb', hC, h⟩ := h
  cases rx
  cases ry
  obtain ⟨c, nf⟩ := hc C C' hC
  obtain ⟨mA, J, _⟩ := ins_get I.hok ha
  obtain ⟨mB, J', _⟩ := ins_get I.hok hb'
  obtain ⟨od, J, _⟩ := J.look
  obtain ⟨od', J', _⟩ := J'.look
  have hu := hr.units
  refine ne_rich (h0 := X.base) (L := 0) (m := fun _ => none) (tb := .ref C') (by omega) I.kIn J c J'.type nf ?_
  refine wpAny_mono (run_at (A := X.A.in1) rfl G hr.in1 hb I (vs := [V.ref a, V.ref b]) (.cons rfl (.cons rfl .nil)) h) (fun u s' hq => ?_) fun _ _ e => e
  obtain ⟨z, H', I', rz, cc, rfl, q⟩ := hq
  cases rz
  exact ⟨cc, rfl, .bl (!cc), H', I', rfl, by cases cc <;> exact q⟩
/-- over data: both sides objects that are data -/
def dEqO (PC : Addr → Addr → Prop) (F : FD) (n : Bool) (da db : DE) : DE := fun sl M ED Q => da sl M ED fun x M1 => db sl M1 ED fun y M2 => ∃ C fs C' gs, x = .obj C fs ∧ y = .obj C' gs ∧ PC C C' ∧
  F [x, y] [] (fun _ _ _ => False) fun d M' => ∃ c, d = .bl c ∧ Q (.bl (xorB n c)) (M2 ++ M')
theorem sim_eqO {K : PySem.W.Frag} {E : L2.St → XK} {PC : Addr → Addr → Prop} {F : FD} {n : Bool} {ta tb : TE} {da db : DE} (ha : SimE K E ta da) (hb : SimE K E tb db) : SimE K E (tOp (rEqO PC (spD K F) n) ta tb) (dEqO PC F n da db) := by
  intro S0 sl M σ H Q QD ED k xl hd l
  refine ha S0 sl M σ H _ _ ED k xl hd fun d1 M1 x H1 m1 x1 r1 q1 => ?_
  refine hb S0 sl M1 σ H1 _ _ ED (k.ext m1 x1) (xl.ext x1) q1 fun d2 M2 y H2 m2 x2 r2 q2 => ?_
  obtain ⟨C, fs, C', gs, rfl, rfl, hC, q⟩ := q2
  have r1' := r1.ext x2
  cases r1' with
  | @obj a _ dx ws _ h1 h2 h3 =>
  cases r2 with
  | @obj b _ dy us _ g1 g2 g3 =>
  refine ⟨a, b, C, dx, ws, C', dy, us, rfl, rfl, h2, g2, hC, mk0 S0 [] M2, [.obj C fs, .obj C' gs], sel [] M2, _, _, m2.sel List.nodup_nil, by rw [mk0_sm]; exact .cons (.obj h1 h2 h3) (.cons (.obj g1 g2 g3) .nil), q, fun d M' v H' m' x' pr r' q' => ?_, fun cls fs M' dd H' m' x' pr r' q' => q'.elim⟩
  obtain ⟨p1, p2, p3⟩ := put_back m2 List.nodup_nil rfl m' x' pr
  obtain ⟨c, rfl, q'⟩ := q'
  cases r'
  exact ⟨c, rfl, l _ _ _ H' p1 ((x1.trans x2).trans p2) (.bl _) q'⟩
theorem de_eqO {E : L2.St → XK} {a b : Expr} {pos : Pos} {PC : Addr → Addr → Prop} {F : FD} {da db : DE} (c : EqOk X.prog X.w X.K X.mg X.base k PC F) (hr : Room (k + 1) X.A) (ha : DEx X E a da) (hb : DEx X E b db) (hm : behindInMarks .Eq b = false := by first | exact nomark _ | rfl) : DEx X E (.Compare a [.Eq] [b] pos) (dEqO PC F false da db) := by
  obtain ⟨f, fd, ps, h1, h2, h3⟩ := c
  obtain ⟨ta, p1, s1⟩ := ha
  obtain ⟨tb, p2, s2⟩ := hb
  exact ⟨_, pe_cmpR (op_eqO h1 h2 h3 hr) p1 p2 hm, sim_eqO s1 s2⟩
theorem de_neO {E : L2.St → XK} {a b : Expr} {pos : Pos} {PC : Addr → Addr → Prop} {F : FD} {da db : DE} (c : EqOk X.prog X.w X.K X.mg X.base k PC F) (hr : Room (k + 1) X.A) (ha : DEx X E a da) (hb : DEx X E b db) (hm : behindInMarks .NotEq b = false := by first | exact nomark _ | rfl) : DEx X E (.Compare a [.NotEq] [b] pos) (dEqO PC F true da db) := by
  obtain ⟨f, fd, ps, h1, h2, h3⟩ := c
  obtain ⟨ta, p1, s1⟩ := ha
  obtain ⟨tb, p2, s2⟩ := hb
  exact ⟨_, pe_cmpR (op_neO h1 h2 h3 hr) p1 p2 hm, sim_eqO s1 s2⟩
theorem dt_eqO {E : L2.St → XK} {a b : Expr} {pos : Pos} {PC : Addr → Addr → Prop} {F : FD} {da db : DE} (c : EqOk X.prog X.w X.K X.mg X.base k PC F) (hr : Room (k + 1) X.A) (ha : DEx X E a da) (hb : DEx X E b db) (hm : behindInMarks .Eq b = false := by first | exact nomark _ | rfl) : DTx X E (.Compare a [.Eq] [b] pos) (dTest (dEqO PC F false da db)) := by
  obtain ⟨f, fd, ps, h1, h2, h3⟩ := c
  obtain ⟨ta, p1, s1⟩ := ha
  obtain ⟨tb, p2, s2⟩ := hb
  exact ⟨_, pt_cmpR (op_eqO h1 h2 h3 hr) p1 p2 hm, sim_test (sim_eqO s1 s2)⟩
theorem dt_neO {E : L2.St → XK} {a b : Expr} {pos : Pos} {PC : Addr → Addr → Prop} {F : FD} {da db : DE} (c : EqOk X.prog X.w X.K X.mg X.base k PC F) (hr : Room (k + 1) X.A) (ha : DEx X E a da) (hb : DEx X E b db) (hm : behindInMarks .NotEq b = false := by first | exact nomark _ | rfl) : DTx X E (.Compare a [.NotEq] [b] pos) (dTest (dEqO PC F true da db)) := by
  obtain ⟨f, fd, ps, h1, h2, h3⟩ := c
  obtain ⟨ta, p1, s1⟩ := ha
  obtain ⟨tb, p2, s2⟩ := hb
  exact ⟨_, pt_cmpR (op_neO h1 h2 h3 hr) p1 p2 hm, sim_test (sim_eqO s1 s2)⟩
end
end OD

/-! OD14: in, get, comprehensions that make dicts. -/
namespace OD
open PySem PySem.Spec L2
section
variable {X : Cx} {E : L2.St → XK} {K : PySem.W.Frag} {a b c : Expr} {es : List Expr} {pos p : Pos} {da db dc : DE} {dr : DA} {dt : DT} {sts : List Stmt} {td ud : DS} {tg iter : Expr}
def scal : D → Option V
  | .non => some .non | .bl b => some (.bl b) | .int i => some (.int i) | .str z => some (.str z)
  | _ => none
theorem scal_V {S : Mark} {H : Hp} {v w : V} {d : D} (r : RepT K S H v d) (e : scal d = some w) : v = w ∧ flatV w = true := by
  cases r with
  | imm r => cases r <;> first | (cases e; exact ⟨rfl, rfl⟩) | cases e
  | _ => cases e
theorem scal_Vs {S : Mark} {H : Hp} : ∀ {ds : List D} {vs ws : List V}, Reps K S H vs ds → ds.map scal = ws.map some → vs = ws ∧ ws.all flatV = true := by
  intro ds
  induction ds with
  | nil => intro vs ws r e; cases r; cases ws with
    | nil => exact ⟨rfl, rfl⟩
    | cons _ _ => cases e
  | cons d ds ih =>
    intro vs ws r e
    cases ws with
    | nil => cases e
    | cons w ws =>
      cases r with
      | cons r1 r2 =>
        rw [List.map_cons, List.map_cons] at e
        injection e with e1 e2
        obtain ⟨h1, h2⟩ := scal_V (.imm r1) e1
        obtain ⟨h3, h4⟩ := ih r2 e2
        exact ⟨by rw [h1, h3], by rw [List.all_cons, h2, h4]; rfl⟩
def keyD : D → Option Key
  | .int i => some (.inl i) | .str z => some (.inr z)
  | _ => none
theorem keyD_V {S : Mark} {H : Hp} {v : V} {k : Key} {d : D} (r : RepT K S H v d) (e : keyD d = some k) : v = kV k := by
  cases r with
  | imm r => cases r <;> first | (cases e; rfl) | cases e
  | _ => cases e
def lookD (kvs : List (Key × D)) (k : Key) : Option D := (kvs.find? fun kv => decide (kv.1 = k)).map (·.2)
/-! ### in -/
def inD (n : Bool) (x y : D) (M : Mem) (Q : DK) : Prop := match y with
  | .dic kvs => ∃ k, keyD x = some k ∧ Q (.bl (xorB n (lookD kvs k).isSome)) M
  | .lst ys => ∃ vx vys, scal x = some vx ∧ ys.map scal = vys.map some ∧ Q (.bl (xorB n (inV vx vys))) M
  | .tup ys => ∃ vx vys, scal x = some vx ∧ ys.map scal = vys.map some ∧ Q (.bl (xorB n (inV vx vys))) M
  | _ => False
def rInDk (n : Bool) : R2 := fun x y H Q => ∃ a o, y = .ref a ∧ DGet H a x o ∧ Q (.bl (if n then !o.isSome else o.isSome)) H
theorem op_inDk (hu : X.A.units + 64 < cLine) : OpR X (compareOp .In) (rInDk false) := by
  intro pins s σ H x y v u Q I rx ry h
  obtain ⟨a, o, rfl, g, q⟩ := h
  cases ry
  exact d_in (by omega) I g rx fun s' I' => ⟨.bl o.isSome, H, I', rfl, q⟩
theorem op_notInDk (hu : X.A.units + 64 < cLine) : OpR X (compareOp .NotIn) (rInDk true) := by
  intro pins s σ H x y v u Q I rx ry h
  obtain ⟨a, o, rfl, g, q⟩ := h
  cases ry
  exact d_notIn (by omega) I g rx fun s' I' => ⟨.bl (!o.isSome), H, I', rfl, q⟩
def rInA (K : PySem.W.Frag) (n : Bool) : R2 := fun x y H Q => rIn K n x y H Q ∨ rInDk n x y H Q
theorem op_inA (hu : X.A.units + 64 < cLine) : OpR X (compareOp .In) (rInA X.K false) := op_in_seq.or (op_inDk hu)
theorem op_notInA (hu : X.A.units + 64 < cLine) : OpR X (compareOp .NotIn) (rInA X.K true) := op_notIn_seq.or (op_notInDk hu)
theorem RepsK.get {S : Mark} {H : Hp} {k : Key} {kvs : List (Key × D)} {ws : List (Key × V)} (h : RepsK K S H ws kvs) : (lookD kvs k).isSome = (valV ws k).isSome := by
  cases e : lookD kvs k with
  | none => rw [h.valN e]; rfl
  | some d => obtain ⟨v, e2, _⟩ := h.val e; rw [e2]; rfl
theorem sv_in {n : Bool} : SimV2 K (rInA K n) (inD n) := by
  intro S0 M H x y dx dy Q QD m rx ry h l
  cases dy with
  | dic kvs =>
    obtain ⟨a, vs, rfl, h1, r1⟩ := ry.dic_inv
    obtain ⟨k, e, q⟩ := h
    cases keyD_V rx e
    refine .inr ⟨a, _, rfl, dgetR (k := k) h1, ?_⟩
    have q2 := l.now m (.bl _) q
    rw [RepsK.get r1] at q2
    cases n <;> exact q2
  | lst ys =>
    obtain ⟨a, vs, rfl, h1, r1⟩ := ry.lst_inv
    obtain ⟨vx, vys, e1, e2, q⟩ := h
    obtain ⟨rfl, f1⟩ := scal_V rx e1
    obtain ⟨rfl, f2⟩ := scal_Vs r1 e2
    refine .inl ⟨a, _, rfl, .inl (.inl (.inl h1)), f1, f2, ?_⟩
    have q2 := l.now m (.bl _) q
    cases n <;> exact q2
  | tup ys =>
    obtain ⟨a, vs, rfl, h1, r1⟩ := ry.tup_inv
    obtain ⟨vx, vys, e1, e2, q⟩ := h
    obtain ⟨rfl, f1⟩ := scal_V rx e1
    obtain ⟨rfl, f2⟩ := scal_Vs r1 e2
    refine .inl ⟨a, _, rfl, .inr h1, f1, f2, ?_⟩
    have q2 := l.now m (.bl _) q
    cases n <;> exact q2
  | _ => exact h.elim
/-! ### d.get(k, x) -/
def dGet2 (da db dc : DE) : DE := fun sl M ED Q => da sl M ED fun x M1 => vw M1 x (fun w => ∃ kvs, w = .dic kvs) ∧ db sl M1 ED fun y M2 => dc sl M2 ED fun z M3 => vw M3 x fun w => ∃ kvs k, w = .dic kvs ∧ keyD y = some k ∧ Q ((lookD kvs k).getD z) M3
theorem de_get2 {o e f : Expr} {apos cpos : Pos} (hu : X.A.units + 64 < cLine) (ho : DEx X E o da) (he : DEx X E e db) (hf : DEx X E f dc) (m : M2 X o "get" apos e f cpos := by exact ⟨rfl, rfl, rfl, rfl⟩) : DEx X E (.Call (.Attribute o "get" apos) [e, f] [] cpos) (dGet2 da db dc) := by
  obtain ⟨ta, p1, s1⟩ := ho
  obtain ⟨tb, p2, s2⟩ := he
  obtain ⟨tc, p3, s3⟩ := hf
  refine ⟨_, pe_dget2 (by omega) p1 p2 p3 m, fun S0 sl M σ H Q QD ED k xl hd l => s1 S0 sl M σ H _ _ ED k xl hd fun d1 M1 x H1 m1 x1 r1 q1 => ?_⟩
  obtain ⟨q0, q1⟩ := q1
  obtain ⟨w, ⟨kvs, rfl⟩, rw0⟩ := vw_of m1 r1 q0
  obtain ⟨a, vs, rfl, h1, _⟩ := rw0.dic_inv
  refine ⟨a, rfl, .inl ⟨vs, h1⟩, s2 S0 sl M1 σ H1 _ _ ED (k.ext m1 x1) (xl.ext x1) q1 fun d2 M2 y H2 m2 x2 r2 q2 => ?_⟩
  refine s3 S0 sl M2 σ H2 _ _ ED ((k.ext m1 x1).ext m2 x2) ((xl.ext x1).ext x2) q2 fun d3 M3 z H3 m3 x3 r3 q3 => ?_
  obtain ⟨w, ⟨kvs, k', rfl, ek, q⟩, rw3⟩ := vw_of m3 ((r1.ext x2).ext x3) q3
  obtain ⟨a', vs', ea, h3, rk⟩ := rw3.dic_inv
  cases ea
  cases keyD_V (.imm r2) ek
  refine ⟨_, dgetR (k := k') h3, ?_⟩
  have x4 := (x1.trans x2).trans x3
  cases e : lookD kvs k' with
  | none => rw [e] at q; rw [rk.valN e]; exact l _ M3 _ H3 m3 x4 r3 q
  | some d =>
    rw [e] at q
    obtain ⟨v, e2, r⟩ := rk.val e
    rw [e2]
    exact l _ M3 _ H3 m3 x4 r q
/-! ### comprehensions that make dicts -/
def dDc (o : Bool) (di : DI) (vs : List Nat) (dg : DG) (tt : DT) (tk te : DE) : DE := fun sl M ED Q => di sl M ED fun it M1 => ∃ W : Nat → List (Key × D) → Mem → Prop, W 0 [] M1 ∧ (∀ j acc M, j ≤ it.n → W j acc M → it.gd M) ∧
  (∀ j acc M, j < it.n → W j acc M → dg (it.at_ j) (wipeD sl vs) M fun sl2 M2 => tt sl2 M2 NoX fun b M3 => if b = true then tk sl2 M3 NoX fun dk M4 => ∃ k, keyD dk = some k ∧ te sl2 M4 NoX fun d M5 => acc.length < sizeLine ∧ W (j + 1) (putD acc k d) M5 else W (j + 1) acc M3) ∧
  ∀ acc M, W it.n acc M → al o (.dic acc) M Q
theorem sim_dc {o : Bool} {wi : TI} {di : DI} {g : TG} {dg : DG} {t : TT} {tk te : TE} {tt : DT} {dk de : DE} {vs : List Nat} {E' : L2.St → XK} (s1 : SimI K E wi di) (s2 : SimG K g dg) (mg : WG vs g) (s3 : SimT K E' t tt) (s5 : SimE K E' tk dk) (s4 : SimE K E' te de) : SimE K E (tDc wi g t tk te vs) (dDc o di vs dg tt dk de) := by
  intro S0 sl M σ H Q QD ED k xl hd l
  refine s1 S0 sl M σ H _ _ ED k xl hd fun it M1 J H1 m1 x1 ir q => ?_
  obtain ⟨W, w0, wg, wt, we⟩ := q
  intro Dl hD
  -- the new list is marked while it grows
  let S1 : Mark := fun a => S0 a ∨ a = Dl
  have mk : Mk S0 H1 S1 := ⟨fun a h => .inl h, fun a h => h.imp _root_.id fun e => by rw [e]; exact hD⟩
  have hs : ∀ a, S0 a → S1 a := fun a h => .inl h
  have k1 := k.ext m1 x1
  have St : ∀ {acc : List (Key × D)} {vs' : List (Key × V)} {M' : Mem} {H' : Hp}, MemOk K S1 M' H' → Ext M1 H1 M' H' → Ok K S1 sl M' σ H' := fun {acc vs' M' H'} m x =>
    ⟨k.len, fun i d e => let ⟨v, e2, r⟩ := k1.sl i d e; ⟨v, e2, Rep.mono (x.kpM mk) d v r⟩, m⟩
  refine ⟨fun i m H' => m = it.n - i ∧ i ≤ it.n ∧ ∃ (acc : List (Key × D)) (accV : List (Key × V)) (M' : Mem), MemOk K S1 M' H' ∧ Ext M1 H1 M' H' ∧ H' Dl = some (.dK accV) ∧ RepsK K (SM S1 M') H' accV acc ∧ W i acc M', ⟨it.n, by simp, Nat.zero_le _, [], [], M1, ?_, .new_imm hD, upd_same, .nil, w0⟩, ?_⟩
  · have b := m1.new_imm (o := .dK []) hD
    refine ⟨b.nd, fun e he => (m1.at_ e he).mono ((Ext.new_imm (M := M1) (o := .dK []) hD).kpM mk) ?_, fun a h => ?_, fun a ha h => ?_⟩
    · rw [upd_ne]
      intro z
      exact (m1.at_ e he).some (by rw [z]; exact hD)
    · rcases h with h | h
      · exact b.trk a h
      · rw [h, upd_same]; exact fun z => by cases z
    · rcases h with h | h
      · exact m1.dis a ha h
      · rw [h] at ha; exact m1.notKey hD ha
  · rintro i m H' ⟨rfl, hi, acc, accV, M', m', x', eD, rD, w⟩
    have gg := ir S1 M' H' mk m' x' (wg i acc M' hi w)
    by_cases hlt : i < it.n
    · obtain ⟨g1, g2⟩ := gg.1 i hlt
      refine .inr ⟨g1, fun H2 => ∃ (acc : List (Key × D)) (accV : List (Key × V)) (M2 : Mem), MemOk K S1 M2 H2 ∧ Ext M1 H1 M2 H2 ∧ H2 Dl = some (.dK accV) ∧ RepsK K (SM S1 M2) H2 accV acc ∧ W (i + 1) acc M2, fun H2 h2 => ⟨it.n - (i + 1), by omega, rfl, hlt, h2⟩, fun y H'' hy => ?_⟩
      obtain ⟨m2, x2, r2⟩ := g2 y H'' hy
      have kk : Ok K S1 sl M' σ H'' := St (acc := acc) (vs' := accV) m2 (x'.trans x2)
      have kw : Ok K S1 (wipeD sl vs) M' (wipe σ vs) H'' := let z := wipe_ok kk.len kk.sl vs; ⟨z.1, z.2, m2⟩
      have nD : ∀ {M'' : Mem} {h : Hp}, MemOk K S1 M'' h → Dl ∉ keys M'' := fun m z => m.dis Dl z (.inr rfl)
      have base := s2 S1 (wipeD sl vs) M' (wipe σ vs) H'' y (it.at_ i) (fun σ2 H2 => t σ2 H2 fun b H3 => if b = true then tk σ2 H3 fun y0 H4 => te σ2 H4 fun y H5 => ∃ kvs kk, y0 = kV kk ∧ H5 Dl = some (.dK kvs) ∧ kvs.length < sizeLine ∧ (∃ (acc' : List (Key × D)) (accV : List (Key × V)) (M2 : Mem), MemOk K S1 M2 (upd H5 Dl (.dK (putK kvs kk y))) ∧ Ext M1 H1 M2 (upd H5 Dl (.dK (putK kvs kk y))) ∧ upd H5 Dl (.dK (putK kvs kk y)) Dl = some (.dK accV) ∧ RepsK K (SM S1 M2) (upd H5 Dl (.dK (putK kvs kk y))) accV acc' ∧ W (i + 1) acc' M2) else
        (∃ (acc : List (Key × D)) (accV : List (Key × V)) (M2 : Mem), MemOk K S1 M2 H3 ∧ Ext M1 H1 M2 H3 ∧ H3 Dl = some (.dK accV) ∧ RepsK K (SM S1 M2) H3 accV acc ∧ W (i + 1) acc M2)) _ kw r2 (wt i acc M' hlt w) fun sl3 M3 σ3 H3 k3 x3 q3 => ?_
      · have z := mg y (wipe σ vs) H'' _ base
        rw [wipe_wipe] at z
        exact z
      · refine s3 S1 sl3 M3 σ3 H3 _ _ NoX k3 XL.no q3 fun b M4 H4 m4 x4 q4 => ?_
        have x34 := (x2.trans x3).trans x4
        cases b with
        | false =>
          rw [if_neg Bool.false_ne_true] at q4 ⊢
          exact ⟨acc, accV, M4, m4, x'.trans x34, x34.keep _ _ eD (nD m'), RepsK.mono x34.kp _ _ rD, q4⟩
        | true =>
          rw [if_pos rfl] at q4 ⊢
          refine s5 S1 sl3 M4 σ3 H4 _ _ NoX (k3.ext m4 x4) XL.no q4 fun dk0 M40 uk H40 m40 x40 r40 q40 => ?_
          obtain ⟨kk, ekk, q40⟩ := q40
          have euk := keyD_V (RepT.imm r40) ekk
          refine s4 S1 sl3 M40 σ3 H40 _ _ NoX ((k3.ext m4 x4).ext m40 x40) XL.no q40 fun d M5 u H5 m5 x5 r5 q5 => ?_
          obtain ⟨ql, qw⟩ := q5
          have x35 := (x34.trans x40).trans x5
          have e5 := x35.keep _ _ eD (nD m')
          -- the list with one item more
          have kp : Kp (SM S1 M5) H5 (SM S1 M5) (upd H5 Dl (.dK (putK accV kk u))) := fun b ob eb n => ⟨by rw [upd_ne (fun z => n (.inl (.inr z)))]; exact eb, n⟩
          refine ⟨accV, kk, euk, e5, by rw [rD.length]; exact ql, putD acc kk d, putK accV kk u, M5, ?_, ?_, upd_same, RepsK.mono kp _ _ ((RepsK.mono x35.kp _ _ rD).put r5), qw⟩
          · refine ⟨m5.nd, fun e he => (m5.at_ e he).mono kp ?_, fun a h => ?_, m5.dis⟩
            · rw [upd_ne]
              intro z
              exact nD m5 (z ▸ List.mem_map.mpr ⟨e, he, rfl⟩)
            · by_cases z : a = Dl
              · rw [z, upd_same]; exact fun z => by cases z
              · rw [upd_ne z]; exact m5.trk a h
          · have xx := x'.trans x35
            refine ⟨fun b ob eb n => ?_, xx.new, fun b hb => ?_⟩
            · rw [upd_ne (ne_of_none eb hD)]
              exact xx.keep b ob eb n
            · by_cases z : b = Dl
              · rw [z, upd_same]; exact fun z => by cases z
              · rw [upd_ne z]; exact xx.trk b hb
    · have e : i = it.n := by omega
      subst e
      refine .inl ⟨gg.2, ?_⟩
      have q := we acc M' w
      have l' := l.ext (x1.trans x')
      have nD : Dl ∉ keys M' := fun z => m'.dis Dl z (.inr rfl)
      have nS : ¬ S0 Dl := fun z => m1.trk Dl z hD
      have hH : H Dl = none := Classical.byContradiction fun z => x1.trk Dl z hD
      cases o with
      | false =>
        have m0 : MemOk K S0 M' H' := m'.weak hs
        have kp : Kp (SM S1 M') H' (SM S0 M') H' := fun b o eb n => ⟨eb, fun z => n (z.elim (fun z => .inl (hs b z)) .inr)⟩
        exact l'.now m0 (.dic (fun z => z.elim nS nD) (.inl eD) (RepsK.mono kp _ _ rD)) q
      | true =>
        have sm : SM S0 (M' ++ [(Dl, .dic acc)]) = SM S1 M' := by
          funext a
          unfold SM
          rw [keys_append]
          refine propext ⟨fun h => ?_, fun h => ?_⟩
          · rcases h with h | h
            · exact .inl (.inl h)
            · rcases List.mem_append.mp h with h | h
              · exact .inr h
              · have : a = Dl := by simpa [keys] using h
                exact .inl (.inr this)
          · rcases h with (h | h) | h
            · exact .inl h
            · exact .inr (List.mem_append_right _ (by simp [keys, h]))
            · exact .inr (List.mem_append_left _ h)
        refine l (.ref Dl) _ _ _ ⟨?_, fun e he => ?_, fun a h => m'.trk a (hs a h), fun a ha => ?_⟩ ⟨(x1.trans x').keep, fun b hb => ?_, (x1.trans x').trk⟩ (.ref Dl) (q Dl nD)
        · rw [keys_append]
          refine List.nodup_append.mpr ⟨m'.nd, by simp [keys], fun a ha b hb z => ?_⟩
          have : b = Dl := by simpa [keys] using hb
          exact nD (by rw [← this, ← z]; exact ha)
        · rw [sm]
          rcases List.mem_append.mp he with he | he
          · exact m'.at_ e he
          · have : e = (Dl, .dic acc) := by simpa using he
            subst this
            exact ⟨accV, eD, rD⟩
        · rw [keys_append] at ha
          rcases List.mem_append.mp ha with h | h
          · exact fun z => m'.dis a h (.inl z)
          · have : a = Dl := by simpa [keys] using h
            rw [this]; exact nS
        · rw [keys_append] at hb
          rcases List.mem_append.mp hb with h | h
          · exact (x1.trans x').new b h
          · have : b = Dl := by simpa [keys] using h
            rw [this]; exact .inr hH
theorem de_dc (o : Bool) {scope : Scope} {own : List (Str × Nat)} {ifs : List Expr} {kx elt : Expr} {di : DI} {dg : DG} {tt : DT} {tk te : DE} (hc : X.calm = true) (hN : X.N.Nodup) (hi : DIx X E tg iter di) (ok : BlkOk X.N X.env.scope scope own)
    (hg : ∀ (s : Shared) (H : Hp) (C : Addr) (cl : List (Str × Addr)) (fp : List Addr), DCx (X.blk s H scope (compEnvC scope cl C X.env) fp) tg (own.map (·.2)) dg)
    (ht : ∀ (s : Shared) (H : Hp) (C : Addr) (cl : List (Str × Addr)) (fp : List Addr), DPx (X.blk s H scope (compEnvC scope cl C X.env) fp) (fun _ => E0) ifs tt)
    (hk : ∀ (s : Shared) (H : Hp) (C : Addr) (cl : List (Str × Addr)) (fp : List Addr), DEx (X.blk s H scope (compEnvC scope cl C X.env) fp) (fun _ => E0) kx tk)
    (he : ∀ (s : Shared) (H : Hp) (C : Addr) (cl : List (Str × Addr)) (fp : List Addr), DEx (X.blk s H scope (compEnvC scope cl C X.env) fp) (fun _ => E0) elt te) (hs : ∀ x, foldedSetIterable iter X.env x = pure x := by intro _; rfl) :
    DEx X E (.DictComp kx elt [⟨tg, iter, ifs, 0⟩] scope pos) (dDc o di (own.map (·.2)) dg tt tk te) := by
  obtain ⟨wi, p1, s1⟩ := hi
  refine ⟨_, pe_dc (g := fun v σ H Q => ∀ s H0 C cl fp, (hg s H0 C cl fp).ex.choose v σ H Q) (tt := fun σ H Q => ∀ s H0 C cl fp, (ht s H0 C cl fp).ex.choose σ H Q) (tk := fun σ H Q => ∀ s H0 C cl fp, (hk s H0 C cl fp).ex.choose σ H Q) (tv := fun σ H Q => ∀ s H0 C cl fp, (he s H0 C cl fp).ex.choose σ H Q) hc hN p1 ok
    (fun s H0 C cl fp => ⟨fun pins st σ H v u Q I r h => (hg s H0 C cl fp).ex.choose_spec.1.run pins st σ H v u Q I r (h s H0 C cl fp)⟩)
    (fun s H0 C cl fp => ⟨fun pins st σ H Q I h => (ht s H0 C cl fp).ex.choose_spec.1.run pins st σ H Q I (h s H0 C cl fp)⟩)
    (fun s H0 C cl fp => ⟨fun pins st σ H Q I h => (hk s H0 C cl fp).ex.choose_spec.1.run pins st σ H Q I (h s H0 C cl fp)⟩)
    (fun s H0 C cl fp => ⟨fun pins st σ H Q I h => (he s H0 C cl fp).ex.choose_spec.1.run pins st σ H Q I (h s H0 C cl fp)⟩) hs, ?_⟩
  refine sim_dc (E' := fun _ => E0) s1 ?_ ?_ ?_ ?_ ?_
  · exact fun S0 sl M σ H v d Q QD k r h l s H0 C cl fp => (hg s H0 C cl fp).ex.choose_spec.2.1 S0 sl M σ H v d Q QD k r h l
  · exact fun v σ H Q h s H0 C cl fp => (hg s H0 C cl fp).ex.choose_spec.2.2.1 v σ H Q (h s H0 C cl fp)
  · exact fun S0 sl M σ H Q QD ED k xl h l s H0 C cl fp => (ht s H0 C cl fp).ex.choose_spec.2 S0 sl M σ H Q QD ED k xl h l
  · exact fun S0 sl M σ H Q QD ED k xl h l s H0 C cl fp => (hk s H0 C cl fp).ex.choose_spec.2 S0 sl M σ H Q QD ED k xl h l
  · exact fun S0 sl M σ H Q QD ED k xl h l s H0 C cl fp => (he s H0 C cl fp).ex.choose_spec.2 S0 sl M σ H Q QD ED k xl h l
end
end OD

/-! OD15: dicts that are walked (locked meanwhile), setdefault, clear, list(d). -/
namespace OD
open PySem PySem.Spec L2
section
variable {X : Cx} {E : L2.St → XK} {K : PySem.W.Frag} {S0 : Mark} {M : Mem} {H : Hp}
def keyV : Key → D
  | .inl i => .int i
  | .inr z => .str z
theorem rep_key {S : Mark} (k : Key) : Rep K S H (kV k) (keyV k) := by
  cases k with
  | inl i => exact .int i
  | inr z => exact .str z
/-- an owned object's node is another one, the object at its address another one -/
theorem set_back {k : Nat} {p : Addr} {n n' : N} (h : M[k]? = some (p, n)) : (M.set k (p, n')).set k (p, n) = M := by
  refine List.ext_getElem? fun j => ?_
  by_cases z : k = j
  · subst z
    rw [List.getElem?_set_self (by rw [List.length_set]; exact (List.getElem?_eq_some_iff.mp h).1), h]
  · rw [List.getElem?_set_ne z, List.getElem?_set_ne z]
/-- for as long as t runs the dict at the k-th place is locked -/
def dLockS (k : Nat) (td : DS) : DS := fun Dd sl M => ∃ (p : Addr) (kvs : List (Key × D)), M[k]? = some (p, .dic kvs) ∧ ∀ (od : Obj) (ws : List (Key × V)),
  td { nx := fun sl' M' => M'[k]? = some (p, .lok od ws kvs) ∧ Dd.nx sl' (M'.set k (p, .dic kvs)), rt := fun d M' => M'[k]? = some (p, .lok od ws kvs) ∧ Dd.rt d (M'.set k (p, .dic kvs)),
       bk := fun sl' M' => M'[k]? = some (p, .lok od ws kvs) ∧ Dd.bk sl' (M'.set k (p, .dic kvs)), ct := fun sl' M' => M'[k]? = some (p, .lok od ws kvs) ∧ Dd.ct sl' (M'.set k (p, .dic kvs)), ex := fun _ => NoX } sl (M.set k (p, .lok od ws kvs))
def dLockE (k : Nat) (td : DE) : DE := fun sl M ED Q => ∃ (p : Addr) (kvs : List (Key × D)), M[k]? = some (p, .dic kvs) ∧ ∀ (od : Obj) (ws : List (Key × V)), td sl (M.set k (p, .lok od ws kvs)) NoX fun d M' => M'[k]? = some (p, .lok od ws kvs) ∧ Q d (M'.set k (p, .dic kvs))
theorem lock_in {k : Nat} {p : Addr} {kvs : List (Key × D)} {od : Obj} {ws : List (Key × V)} (m : MemOk K S0 M H) (e : M[k]? = some (p, .dic kvs)) (h2 : RepsK K (SM S0 M) H ws kvs) :
    MemOk K S0 (M.set k (p, .lok od ws kvs)) (upd H p (.frz od (.dK ws))) ∧ Ext M H (M.set k (p, .lok od ws kvs)) (upd H p (.frz od (.dK ws))) := by
  have x : Ext M H (M.set k (p, .lok od ws kvs)) (upd H p (.frz od (.dK ws))) := .write e
  have kp : Kp (SM S0 M) H (SM S0 M) (upd H p (.frz od (.dK ws))) := by
    have := x.kp (S0 := S0)
    rwa [SM_keys (keys_set e)] at this
  exact ⟨m.write e ⟨upd_same, RepsK.mono kp _ _ h2⟩, x⟩
theorem lock_out {M' : Mem} {H' : Hp} {k : Nat} {p : Addr} {kvs : List (Key × D)} {od : Obj} {ws : List (Key × V)} (m : MemOk K S0 M' H') (e : M'[k]? = some (p, .lok od ws kvs)) :
    H' p = some (.frz od (.dK ws)) ∧ MemOk K S0 (M'.set k (p, .dic kvs)) (upd H' p (.dK ws)) ∧ Ext M' H' (M'.set k (p, .dic kvs)) (upd H' p (.dK ws)) := by
  have x : Ext M' H' (M'.set k (p, .dic kvs)) (upd H' p (.dK ws)) := .write e
  have kp : Kp (SM S0 M') H' (SM S0 M') (upd H' p (.dK ws)) := by
    have := x.kp (S0 := S0)
    rwa [SM_keys (keys_set e)] at this
  obtain ⟨h1, h2⟩ := m.at_ _ (List.mem_of_getElem? e)
  exact ⟨h1, m.write e ⟨_, upd_same, RepsK.mono kp _ _ h2⟩, x⟩
theorem sim_lockS {k : Nat} {t : TS} {td : DS} (s : SimS K E t td) : SimS K E (tLock t) (dLockS k td) := by
  intro S0 sl M σ H Dd Dn ok l h
  obtain ⟨p, kvs, e, h⟩ := h
  obtain ⟨ws, h1, h2⟩ := ok.mem.at_ _ (List.mem_of_getElem? e)
  refine ⟨p, .dK ws, h1, True.intro, fun od => ?_⟩
  obtain ⟨m1, x1⟩ := lock_in (od := od) ok.mem e h2
  refine s S0 sl _ σ _ _ _ (ok.ext m1 x1) ⟨fun sl' M' σ' H' k' x' q => ?_, fun d M' v H' m' x' r q => ?_, fun sl' M' σ' H' k' x' q => ?_, fun sl' M' σ' H' k' x' q => ?_, fun _ _ _ _ _ _ => XL.no⟩ (h od ws)
  · obtain ⟨g1, g2, g3⟩ := lock_out k'.mem q.1
    exact ⟨g1, l.nx sl' _ σ' _ (k'.ext g2 g3) ((x1.trans x').trans g3) q.2⟩
  · obtain ⟨g1, g2, g3⟩ := lock_out m' q.1
    exact ⟨g1, l.rt d _ v _ g2 ((x1.trans x').trans g3) (r.ext g3) q.2⟩
  · obtain ⟨g1, g2, g3⟩ := lock_out k'.mem q.1
    exact ⟨g1, l.bk sl' _ σ' _ (k'.ext g2 g3) ((x1.trans x').trans g3) q.2⟩
  · obtain ⟨g1, g2, g3⟩ := lock_out k'.mem q.1
    exact ⟨g1, l.ct sl' _ σ' _ (k'.ext g2 g3) ((x1.trans x').trans g3) q.2⟩
theorem sim_lockE {k : Nat} {t : TE} {td : DE} (s : SimE K E t td) : SimE K E (tLockE t) (dLockE k td) := by
  intro S0 sl M σ H Q QD ED ok xl h l
  obtain ⟨p, kvs, e, h⟩ := h
  obtain ⟨ws, h1, h2⟩ := ok.mem.at_ _ (List.mem_of_getElem? e)
  refine ⟨p, .dK ws, h1, True.intro, fun od => ?_⟩
  obtain ⟨m1, x1⟩ := lock_in (od := od) ok.mem e h2
  refine s S0 sl _ σ _ _ _ NoX (ok.ext m1 x1) XL.no (h od ws) fun d M' v H' m' x' r q => ?_
  obtain ⟨g1, g2, g3⟩ := lock_out m' q.1
  exact ⟨g1, l d _ v _ g2 ((x1.trans x').trans g3) (r.ext g3) q.2⟩
theorem ds_lock {st : Stmt} {td : DS} (k : Nat) (h : DSx X E st td) : DSx X E st (dLockS k td) := by
  obtain ⟨t, p, s⟩ := h
  exact ⟨_, ps_lock p, sim_lockS s⟩
theorem de_lock {e : Expr} {td : DE} (k : Nat) (h : DEx X E e td) : DEx X E e (dLockE k td) := by
  obtain ⟨t, p, s⟩ := h
  exact ⟨_, pe_lock p, sim_lockE s⟩
/-! for k in d -/
def itKeys (kvs : List (Key × D)) (gd : Mem → Prop) : Itm := ⟨kvs.length, fun i => ((kvs[i]?).map fun kv => keyV kv.1).getD .non, gd⟩
def diKeys (da : DE) : DI := fun sl M ED RD => da sl M ED fun x M1 => ∃ (p : Addr) (k : Nat) (od : Obj) (ws : List (Key × V)) (kvs : List (Key × D)), x = .ref p ∧ M1[k]? = some (p, .lok od ws kvs) ∧ RD (itKeys kvs fun M' => M'[k]? = some (p, .lok od ws kvs)) M1
theorem RepsK.at_ {S : Mark} : ∀ {kvs : List (Key × D)} {ws : List (Key × V)}, RepsK K S H ws kvs → ws.map (·.1) = kvs.map (·.1) := by
  intro kvs
  induction kvs with
  | nil => intro ws h; cases h; rfl
  | cons p r ih =>
    intro ws h
    cases h with
    | cons a b => rw [List.map_cons, List.map_cons, ih b]
theorem di_keys {tg e : Expr} {da : DE} (h : DEx X E e da) : DIx X E tg e (diKeys da) := by
  obtain ⟨t, p, s⟩ := h
  refine ⟨_, pi_keys p, fun S0 sl M σ H R RD ED k xl hd l => s S0 sl M σ H _ _ ED k xl hd fun d M1 v H1 m1 x1 r1 q1 => ?_⟩
  obtain ⟨a, j, od, ws, kvs, rfl, e, q⟩ := q1
  cases r1
  obtain ⟨h1, h2⟩ := m1.at_ _ (List.mem_of_getElem? e)
  refine ⟨a, od, rfl, .inl ⟨ws, h1, l _ M1 _ H1 m1 x1 (fun S1 M' H' mk m x g => ?_) q⟩⟩
  obtain ⟨g1, g2⟩ := m.at_ _ (List.mem_of_getElem? g)
  have hl : ws.length = kvs.length := g2.length
  refine ⟨fun i hi => ?_, g1, by rw [hl]; exact Nat.le_refl _⟩
  have hi' : i < kvs.length := hi
  refine ⟨⟨g1, by rw [hl]; exact hi'⟩, fun y H'' hy => ?_⟩
  obtain ⟨rfl, kk, vv, e1, rfl⟩ := hy
  refine ⟨m, .refl _ _, ?_⟩
  have e2 := congrArg (fun z => z[i]?) (RepsK.at_ g2)
  simp only [List.getElem?_map] at e2
  rw [e1] at e2
  show Rep X.K _ _ _ (((kvs[i]?).map fun kv => keyV kv.1).getD .non)
  rw [List.getElem?_eq_getElem hi'] at e2 ⊢
  have e3 : kk = (kvs[i]).1 := by simpa using e2
  show Rep _ _ _ _ (keyV (kvs[i]).1)
  rw [← e3]
  exact rep_key kk
/-! d.setdefault(k, x), the dict owned -/
def dSetd (da db dc : DE) : DE := fun sl M ED Q => da sl M ED fun x M1 => vw M1 x (fun w => ∃ kvs, w = .dic kvs) ∧ db sl M1 ED fun y M2 => dc sl M2 ED fun z M3 => ∃ (p : Addr) (j : Nat) (kvs : List (Key × D)) (k : Key), x = .ref p ∧ M3[j]? = some (p, .dic kvs) ∧ keyD y = some k ∧ kvs.length < sizeLine ∧
  match lookD kvs k with
  | some d => Q d M3
  | none => Q z (M3.set j (p, .dic (putD kvs k z)))
theorem de_setd {o e f : Expr} {apos cpos : Pos} {da db dc : DE} (ho : DEx X E o da) (he : DEx X E e db) (hf : DEx X E f dc) (m : M2 X o "setdefault" apos e f cpos := by exact ⟨rfl, rfl, rfl, rfl⟩) : DEx X E (.Call (.Attribute o "setdefault" apos) [e, f] [] cpos) (dSetd da db dc) := by
  obtain ⟨ta, p1, s1⟩ := ho
  obtain ⟨tb, p2, s2⟩ := he
  obtain ⟨tc, p3, s3⟩ := hf
  refine ⟨_, pe_dsetd p1 p2 p3 m, fun S0 sl M σ H Q QD ED k xl hd l => s1 S0 sl M σ H _ _ ED k xl hd fun d1 M1 x H1 m1 x1 r1 q1 => ?_⟩
  obtain ⟨q0, q1⟩ := q1
  obtain ⟨w, ⟨kvs, rfl⟩, rw0⟩ := vw_of m1 r1 q0
  obtain ⟨a, vs, rfl, h1, _⟩ := rw0.dic_inv
  refine ⟨a, rfl, .inl ⟨vs, h1⟩, s2 S0 sl M1 σ H1 _ _ ED (k.ext m1 x1) (xl.ext x1) q1 fun d2 M2 y H2 m2 x2 r2 q2 => ?_⟩
  refine s3 S0 sl M2 σ H2 _ _ ED ((k.ext m1 x1).ext m2 x2) ((xl.ext x1).ext x2) q2 fun d3 M3 z H3 m3 x3 r3 q3 => ?_
  obtain ⟨p, j, kvs, k', rfl, e, ek, hl, q⟩ := q3
  cases r1
  obtain ⟨ws, g1, g2⟩ := m3.at_ _ (List.mem_of_getElem? e)
  cases keyD_V (.imm r2) ek
  have x4 := (x1.trans x2).trans x3
  refine ⟨ws, k', g1, rfl, by rw [g2.length]; exact hl, fun v hv => ?_, fun hn => ?_⟩
  · cases e2 : lookD kvs k' with
    | none => rw [g2.valN e2] at hv; cases hv
    | some d =>
      rw [e2] at q
      obtain ⟨v', e3, r⟩ := g2.val e2
      rw [hv] at e3
      cases e3
      exact l _ M3 _ H3 m3 x4 r q
  · cases e2 : lookD kvs k' with
    | some d => obtain ⟨v', e3, r⟩ := g2.val e2; rw [hn] at e3; cases e3
    | none =>
      rw [e2] at q
      have x5 : Ext M3 H3 (M3.set j (a, .dic (putD kvs k' d3))) (upd H3 a (.dK (putK ws k' z))) := .write e
      have kp : Kp (SM S0 M3) H3 (SM S0 M3) (upd H3 a (.dK (putK ws k' z))) := by
        have := x5.kp (S0 := S0)
        rwa [SM_keys (keys_set e)] at this
      have m5 : MemOk X.K S0 (M3.set j (a, .dic (putD kvs k' d3))) (upd H3 a (.dK (putK ws k' z))) := m3.write e ⟨_, upd_same, RepsK.mono kp _ _ (g2.put r3)⟩
      exact l d3 _ z _ m5 (x4.trans x5) (r3.ext x5) q
/-! d.clear() -/
def dClear (da : DE) : DE := fun sl M ED Q => da sl M ED fun x M1 => ∃ (p : Addr) (j : Nat) (kvs : List (Key × D)), x = .ref p ∧ M1[j]? = some (p, .dic kvs) ∧ Q .non (M1.set j (p, .dic []))
theorem de_clear {o : Expr} {apos cpos : Pos} {da : DE} (ho : DEx X E o da) (hbase : attributeBase o "clear" X.env (eval o X.env) = eval o X.env := by rfl) (hline : (apos.endLine == cpos.line) = true := by rfl) : DEx X E (.Call (.Attribute o "clear" apos) [] [] cpos) (dClear da) := by
  obtain ⟨ta, p1, s1⟩ := ho
  refine ⟨_, pe_dclear p1 hbase hline, fun S0 sl M σ H Q QD ED k xl hd l => s1 S0 sl M σ H _ _ ED k xl hd fun d1 M1 x H1 m1 x1 r1 q1 => ?_⟩
  obtain ⟨p, j, kvs, rfl, e, q⟩ := q1
  cases r1
  obtain ⟨ws, g1, g2⟩ := m1.at_ _ (List.mem_of_getElem? e)
  have x5 : Ext M1 H1 (M1.set j (p, .dic [])) (upd H1 p (.dK [])) := .write e
  have m5 : MemOk X.K S0 (M1.set j (p, .dic [])) (upd H1 p (.dK [])) := m1.write e ⟨[], upd_same, .nil⟩
  exact ⟨.inr (.inr (.inl ⟨rfl, .inl ⟨ws, g1⟩⟩)), p, ws, rfl, rfl, g1, l .non _ .non _ m5 (x1.trans x5) .non q⟩
/-! list(d) -/
def listKD (o : Bool) : RCD := oneD fun d M Q => match d with
  | .dic kvs => al o (.lst (kvs.map fun kv => keyV kv.1)) M Q
  | _ => False
def rListKR : List V → Hp → VK → Prop := fun xs H Q => ∃ (a : Addr) (kvs : List (Key × V)), xs = [.ref a] ∧ Rd H a (.dK kvs) ∧ ∀ p, H p = none → Q (.ref p) (upd H p (.lst (kvs.map fun kv => kV kv.1)))
theorem reps_keys {S : Mark} : ∀ (ks : List Key), Reps K S H (ks.map kV) (ks.map keyV) := by
  intro ks
  induction ks with
  | nil => exact .nil
  | cons k r ih => exact .cons (rep_key k) ih
theorem sc_listK {o : Bool} : SimC K rListKR (listKD o) := sc_one fun S0 M H v d Q QD m r h l => by
  cases d with
  | dic kvs =>
    obtain ⟨a, vs, rfl, h1, r1⟩ := r.dic_inv
    refine ⟨a, vs, rfl, h1, ?_⟩
    have e1 : (vs.map fun kv => kV kv.1) = (vs.map (·.1)).map kV := by rw [List.map_map]; rfl
    have e2 : (kvs.map fun kv => keyV kv.1) = (vs.map (·.1)).map keyV := by rw [RepsK.at_ r1, List.map_map]; rfl
    have h : al o (.lst (kvs.map fun kv => keyV kv.1)) M QD := h
    rw [e1]
    rw [e2] at h
    exact al_lst m (reps_keys _) h l
  | _ => exact h.elim
/-! isinstance of an own class -/
def isiOD (rel : Value → Addr → Option Bool) : RCD := twoD fun d e M Q => match e with
  | .cls D => match d with
    | .obj C _ => ∃ b, rel (.ref C) D = some b ∧ Q (.bl b) M
    | d => ∃ t b, tyD d = some t ∧ rel (.type t) D = some b ∧ Q (.bl b) M
  | _ => False
/-- what a class must have that its objects' class is looked at -/
structure InsTy (K : PySem.W.Frag) (C : Addr) : Prop where
  cl : Cls K C
  ha : PySem.W.findIn K (.ref C) "__class__" = some (some (.builtin "object.__class__"))
  hn : PySem.W.specialIn K (.builtin "object.__class__") "__get__" = some (some (.builtin "getset_descriptor.__get__"))
  ht : PySem.W.takesIn K (.builtin "object.__class__") = some true
  hm : PySem.W.mroIn K C (.type "object") = some true
structure IsiOk (K : PySem.W.Frag) (rel : Value → Addr → Option Bool) : Prop where
  kit : ∀ t D b, rel t D = some b → PySem.W.kitOne K t (.ref D) = some b
  ins : ∀ C D b, rel (.ref C) D = some b → InsTy K C
theorem sc_isiO {rel : Value → Addr → Option Bool} (c : IsiOk K rel) : SimC K (rIsi K) (isiOD rel) := sc_two fun S0 M H v w d e Q QD m r r2 h l => by
  cases e with
  | cls D =>
    have ew : w = .ref D := by
      cases r2 with
      | imm r => cases r; rfl
    subst ew
    have fin : ∀ t b, TyX K H v t → rel t D = some b → QD (.bl b) M → rIsi K [v, .ref D] H Q := fun t b hx e q => ⟨v, .ref D, t, .ref D, b, rfl, .own D, hx, c.kit t D b e, l.now m (.bl _) q⟩
    cases d with
    | obj C fs =>
      obtain ⟨b, e, q⟩ := h
      obtain ⟨h1, h2, h3, h4, h5⟩ := c.ins C D b e
      cases r with
      | imm r => cases r with
        | obj _ g _ => exact fin _ b (.base (.ins g h1 h2 h3 h4 h5)) e q
      | obj g _ => exact fin _ b (.base (.ins g h1 h2 h3 h4 h5)) e q
    | non => obtain ⟨t, b, et, e, q⟩ := h; cases et; cases r.non_inv; exact fin _ b (.base .non) e q
    | bl i => obtain ⟨t, b, et, e, q⟩ := h; cases et; cases r.bl_inv; exact fin _ b (.base (.bl _)) e q
    | int i => obtain ⟨t, b, et, e, q⟩ := h; cases et; cases r.int_inv; exact fin _ b (.base (.int _)) e q
    | str i => obtain ⟨t, b, et, e, q⟩ := h; cases et; cases r.str_inv; exact fin _ b (.base (.str _)) e q
    | lst xs => obtain ⟨t, b, et, e, q⟩ := h; cases et; obtain ⟨a, vs, rfl, g, _⟩ := r.lst_inv; exact fin _ b (.base (.lst g)) e q
    | dic xs => obtain ⟨t, b, et, e, q⟩ := h; cases et; obtain ⟨a, vs, rfl, g, _⟩ := r.dic_inv; exact fin _ b (g.elim (fun g => .base (.dK g)) fun ⟨o, g⟩ => .fDict g) e q
    | tup xs =>
      obtain ⟨t, b, et, e, q⟩ := h
      cases et
      obtain ⟨a, vs, rfl, h1, r1⟩ := r.tup_inv
      rcases h1 with (h1 | ⟨o, h1⟩) | ⟨o, its, n', h1, h2, _⟩
      · exact fin _ b (.base (.tup h1)) e q
      · exact fin _ b (.fTuple h1) e q
      · exact fin _ b (.kTuple h1 h2) e q
    | _ => obtain ⟨t, b, et, e, q⟩ := h; cases et
  | _ => exact h.elim
end
end OD

/-! OD16: extend; is True, is False; d[k], xs[i] exchanged. -/
namespace OD
open PySem PySem.Spec L2 PyProof.Rows

theorem extendT (l b : Addr) (us vs : Array Value) (n n2 : Nat) (dd : Option Addr) (zs : Array (Option Value)) (h0 : ¬(!us.isEmpty && Builtin.List.listTooLong (us.size + vs.size)) = true) (h1 : us.size ≤ sizeLine) (h2 : us.size + vs.size ≤ sizeLine + 1) :
    Meets (Builtin.«list.extend» ⟨[.ref l, .ref b], []⟩) (fun _ R u => u.heap.get? l = some { cls := .type "list", dict := none, data := .seq us n, slots := #[] } ∧ u.heap.get? b = some { cls := .type "tuple", dict := dd, data := .seq vs n2, slots := zs } ∧
      R (.ok (.ret Value.none)) { u with heap := u.heap.update l (Obj.mapSeq fun x => x ++ vs), toks := u.toks }) :=
  .of_wp fun prog w A R u k => by
    obtain ⟨hp, g, d, tk, os⟩ := u; obtain ⟨hl, hb, k⟩ := k
    have g1 := AutoSeq1.idx_int; have g2 := AutoSeq1.sub_tuple_tuple; have g3 := AutoSeq1.sub_list_list; have g4 := AutoSeq1.sub_tuple_list; have g5 := AutoSeq1.sub_list_tuple
    have hz : (us ++ vs).size ≤ sizeLine + 1 := by rw [Array.size_append]; exact h2
    wp_walk using (wpAny_updateSeq hl rfl (hz := h1) (_hz' := hz)), AutoSeq1.wpAny_loadPart' hl, AutoSeq1.wpAny_loadPart' hb
    exact ⟨_, rfl, k⟩
def rExtT (K : PySem.W.Frag) : V → List V → Hp → VK → Prop := fun x vs H Q => ∃ l b xs zs, x = .ref l ∧ vs = [.ref b] ∧ H l = some (.lst xs) ∧ SqT K H b zs ∧ xs.length + zs.length ≤ sizeLine ∧ Q .non (upd H l (.lst (xs ++ zs)))
theorem mt_extT {X : Cx} : MtR X "list.extend" (rExtT X.K) := by
  intro pins s σ H x vs v us Q I rx rv h
  obtain ⟨l, b, xs, zs, rfl, rfl, hH, hB, hz, q⟩ := h
  cases rx
  obtain ⟨u, rfl, ru⟩ := rv.one
  cases ru
  obtain ⟨z, its, n, r, hl, e⟩ := I.lstM hH
  obtain ⟨ts, rt, p, hz2⟩ := I.tuple hB
  have pT : s.heap.IsTuple b ts.toArray := p
  obtain ⟨⟨c, dd, dt, sl⟩, e2, hc, n2, hd⟩ := pT
  have hc : c = .type "tuple" := hc
  have hd : dt = .seq ts.toArray n2 := hd
  subst hc; subst hd
  have hl1 := r.length
  have hl2 := rt.length
  have hsz : its.toArray.size + ts.toArray.size ≤ sizeLine := by rw [List.size_toArray, List.size_toArray]; omega
  have hlong : ¬ (!its.toArray.isEmpty && Builtin.List.listTooLong (its.toArray.size + ts.toArray.size)) = true := by
    rw [notLongL hsz, Bool.and_false]
    simp
  refine call_meets F.slot_list_extend ⟨_, e, rfl⟩ F.entry_list_extend (F.args_list_extend_2 _ _) (extendT l b its.toArray ts.toArray n n2 dd sl hlong (by rw [List.size_toArray]; omega) (by omega)) ⟨e, e2, ?_⟩
  exact ⟨.non, _, I.lset (its' := its ++ ts) hH e (by simp) (r.append rt) (by rw [List.length_append]; omega), rfl, q⟩
def rExtA (K : PySem.W.Frag) : V → List V → Hp → VK → Prop := fun x vs H Q => rExtend x vs H Q ∨ rExtT K x vs H Q
theorem mt_extA {X : Cx} : MtR X "list.extend" (rExtA X.K) := by
  intro pins s σ H x vs v us Q I rx rv h
  rcases h with h | h
  · exact mt_extend pins s σ H x vs v us Q I rx rv h
  · exact mt_extT pins s σ H x vs v us Q I rx rv h
def extF : List D → List D → (List D → Mem) → DK → Prop := fun xs ds wr Q => match ds with
  | [.lst ys] => xs.length + ys.length ≤ sizeLine ∧ Q .non (wr (xs ++ ys))
  | [.tup ys] => xs.length + ys.length ≤ sizeLine ∧ Q .non (wr (xs ++ ys))
  | _ => False
theorem sm_ext {K : PySem.W.Frag} : SimM K (rExtA K) extF := by
  intro S0 M H p vs ds j xs Q QD m rs e h l
  cases rs with
  | nil => exact h.elim
  | cons r rs =>
    rename_i v vs d ds
    cases rs with
    | cons _ _ => cases d <;> exact h.elim
    | nil =>
      obtain ⟨ws, g1, g2⟩ := m.at_ _ (List.mem_of_getElem? e)
      cases d with
      | tup ys =>
        obtain ⟨hl, q⟩ := h
        obtain ⟨a, us, rfl, t1, t2⟩ := r.tup_inv
        exact .inr ⟨p, a, ws, us, rfl, rfl, g1, t1, by rw [g2.length, t2.length]; exact hl, wr_lst m e (g2.append t2) .non q l⟩
      | lst ys =>
        obtain ⟨hl, q⟩ := h
        obtain ⟨a, us, rfl, t1, t2⟩ := r.lst_inv
        exact .inl ⟨p, a, ws, us, rfl, rfl, g1, t1, by rw [g2.length, t2.length]; exact hl, wr_lst m e (g2.append t2) .non q l⟩
      | _ => exact h.elim
end OD

/-! OD17: x[i] as a target among others; functions as values. -/
namespace OD
open PySem PySem.Spec L2
def dgSub (da di : DE) : DG := fun d sl M Q => da sl M (fun _ _ _ => False) fun x M2 => di sl M2 (fun _ _ _ => False) fun i M3 => mutN M3 x fun n wr => setD n i d wr fun M' => Q sl M'
section
variable {X : Cx} {E : L2.St → XK} {K : PySem.W.Frag} {fe a e o i : Expr} {es : List Expr} {pos p : Pos} {df da di : DE} {dr : DA} {S : Addr → FD → Prop} {ks : List Nat} {k : Nat} {tf : TE} {t : TA}
theorem dg_sub (hu : X.A.units + 64 < cLine) (ho : DEx X (fun _ => E0) o da) (hi : DEx X (fun _ => E0) i di)
    (ha : ∀ v, assign (.Subscript o i pos) X.env v = (do
      let ov ← holding [v] (eval o X.env)
      let iv ← holding [v, ov] (eval i X.env)
      standAt pos
      holding [v, ov, iv] (setItem ov iv v)
      release [v, ov, iv] []) := by intro _; rfl) : DGx X (.Subscript o i pos) (dgSub da di) := by
  obtain ⟨to, p2, s2⟩ := ho
  obtain ⟨ti, p3, s3⟩ := hi
  refine ⟨_, pg_sub p2 p3 (set_all (by omega)) ha, fun S0 sl M σ H v d Q QD k r h l => ?_⟩
  refine s2 S0 sl M σ H _ _ (fun _ _ _ => False) k (fun _ _ _ _ _ _ _ _ z => z.elim) h fun x M2 x' H2 m2 x2 r2 q2 => ?_
  have k2 := k.ext m2 x2
  refine s3 S0 sl M2 σ H2 _ _ (fun _ _ _ => False) k2 (fun _ _ _ _ _ _ _ _ z => z.elim) q2 fun i M3 i' H3 m3 x3 r3 q3 => ?_
  have x13 := x2.trans x3
  have rv := r.ext x13
  have rx := r2.ext x3
  cases x with
  | ref p =>
    cases rx
    obtain ⟨j, n, e, q⟩ := q3
    have g := m3.at_ _ (List.mem_of_getElem? e)
    have fin : ∀ (n' : N) (ob : HO), NodeAt X.K (SM S0 M3) (upd H3 p ob) p n' → QD sl (M3.set j (p, n')) → Q σ (upd H3 p ob) := fun n' ob g' q' =>
      l sl _ σ _ (k.ext (m3.write e g') (x13.trans (.write e))) (x13.trans (.write e)) q'
    cases n with
    | lst xs =>
      cases i with
      | int z =>
        cases r3
        obtain ⟨vs, h1, h2⟩ := g
        obtain ⟨t, e2, q⟩ := q
        refine .inl ⟨p, vs, z, t, rfl, rfl, h1, by rw [h2.length]; exact e2, fin (.lst (xs.set t d)) _ ⟨_, upd_same, Reps.mono (kp_write e _) _ _ (h2.set t rv)⟩ q⟩
      | _ => exact q.elim
    | dic kvs =>
      obtain ⟨ws, h1, h2⟩ := g
      cases i with
      | int z =>
        cases r3
        refine .inr ⟨p, _, rfl, DPut.k (k := Sum.inl z) h1 (by rw [h2.length]; exact q.1), fin (.dic (putD kvs (Sum.inl z) d)) _ ⟨_, upd_same, RepsK.mono (kp_write e _) _ _ (h2.put (k := Sum.inl z) rv)⟩ q.2⟩
      | str z =>
        cases r3
        refine .inr ⟨p, _, rfl, DPut.k (k := Sum.inr z) h1 (by rw [h2.length]; exact q.1), fin (.dic (putD kvs (Sum.inr z) d)) _ ⟨_, upd_same, RepsK.mono (kp_write e _) _ _ (h2.put (k := Sum.inr z) rv)⟩ q.2⟩
      | _ => exact q.elim
    | _ => exact q.elim
  | _ => exact q3.elim
/-- calls of functions that stand as values, of several levels -/
theorem pe_callV (A : ∀ f F, S f F → ∃ k, HeldD X.prog X.w X.K X.mg X.base k f F ∧ Room k X.A) (hf : PE X fe tf) (ha : PA X (e :: es) t)
    (ht : eval (.Call fe (e :: es) [] pos) X.env = (do callWith pos (← eval fe X.env) [] (backTo pos (starEach (e :: es) X.env)) (backToKw pos (keywordEach [] X.env))) := by rfl)
    (he : starEach (e :: es) X.env = (false, eval e X.env) :: starEach es X.env := by rfl) (hpl : (backTo pos (starEach es X.env)).any (·.1) = false := by rfl) : PE X (.Call fe (e :: es) [] pos) (tCallE X.K tf S t) := by
  refine ⟨fun pins s σ H Q I h => ?_⟩
  refine PyProof.Rows.Call_ (thn (hf.run pins s σ H _ I h) fun u s1 ⟨y, H1, I1, ry, f, F, ey, hS, q⟩ => ?_) ht
  subst ey
  obtain rfl : u = Value.ref f := ry
  obtain ⟨k, hk0, hr⟩ := A f F hS
  obtain ⟨fd, ps, G, hk, hb⟩ := hk0.ex
  refine PySem.W.callWith_K (h₀ := X.base) I1.ok.mod.kin hk (thn (ha.run pos pins s1 σ _ _ I1 q) fun us s2 ⟨vs, H2, I2, r, q⟩ => ⟨I2.kIn, ?_⟩) he hpl
  exact run_fn (dvs := []) G hr hb .nil pass0 I2 r (by rw [List.append_nil]; exact q)
theorem de_callV (A : ∀ f F, S f F → ∃ k, HeldD X.prog X.w X.K X.mg X.base k f F ∧ Room k X.A) (hf : DEx X E fe df) (ha : DAx X E (a :: es) dr)
    (ht : eval (.Call fe (a :: es) [] pos) X.env = (do callWith pos (← eval fe X.env) [] (backTo pos (starEach (a :: es) X.env)) (backToKw pos (keywordEach [] X.env))) := by rfl)
    (he : starEach (a :: es) X.env = (false, eval a X.env) :: starEach es X.env := by rfl) (hpl : (backTo pos (starEach es X.env)).any (·.1) = false := by rfl) : DEx X E (.Call fe (a :: es) [] pos) (dCallE df S [] dr) := by
  obtain ⟨tf, pf, sf⟩ := hf
  obtain ⟨t, pa, s⟩ := ha
  exact ⟨_, pe_callV A pf pa ht he hpl, sim_callE List.nodup_nil sf s⟩
theorem HeldD.of {x : Str} {ps : List Str} {F : FD} {f : Addr} {P : Program} {w : World} {mg : Str → Option Value} {base : Heap} (c : DefOk P w K mg base k x ps F) (m : mg x = some (.ref f)) : HeldD P w K mg base k f F := by
  obtain ⟨f', fd, m', kp, b, G⟩ := c
  rw [m] at m'
  cases m'
  exact ⟨fd, ps, G, kp, b⟩
end
end OD

/-! OD18: d.copy(), d.get(k), list(range(..)). -/
namespace OD
open PySem PySem.Spec L2
def rDCopy : V → List V → Hp → VK → Prop := fun x vs H Q => ∃ (a : Addr) (kvs : List (Key × V)), x = .ref a ∧ vs = [] ∧ Rd H a (.dK kvs) ∧ ∀ p, H p = none → Q (.ref p) (upd H p (.dK kvs))
theorem mtd_copy {X : Cx} : MtR X "dict.copy" rDCopy := by
  intro pins s σ H x vs v us Q I rx rv h
  obtain ⟨a, kvs, ex, ev, e, q⟩ := h
  subst ex
  subst ev
  obtain rfl : v = Value.ref a := rx
  have hus := rv.zero
  subst hus
  obtain ⟨z, hd, vs, rel, dd⟩ := dk_rd I.hok e
  refine call_meetsIn PySem.F.slot_dict_copy dd.typeIs PySem.F.entry_dict_copy (PySem.F.args_dict_copy_1 _) (meets_dict_copy (mixKind X.prog X.w) a hd) ⟨vs, dd, by rw [← rel.length]; exact z, fun h' g1 g2 hk => ?_⟩
  exact ⟨.ref s.heap.objs.size, _, I.laid (a := s.heap.objs.size) (o := .dK kvs) (t' := s.toks) hk (Nat.le_refl _) (dk_new z (beq_eq_false_iff_ne.mpr (Ne.symm (Nat.ne_of_lt I.big))) rel g1), rfl, q _ (I.hok.fresh (Nat.le_refl _))⟩
theorem pe_dcopy {X : Cx} {o : Expr} {to : TE} {apos cpos : Pos} (ho : PE X o to) (hbase : attributeBase o "copy" X.env (eval o X.env) = eval o X.env := by rfl) (hline : (apos.endLine == cpos.line) = true := by rfl) : PE X (.Call (.Attribute o "copy" apos) [] [] cpos) (fun σ H Q => to σ H fun x H1 => rDCopy x [] H1 Q) := by
  refine ⟨fun pins s σ H Q I h => ?_⟩
  refine wpAny_Call_method0_late hbase hline (thn (ho.run pins s σ H _ I h) fun v s1 ⟨x, H1, I1, r1, q1⟩ => ?_)
  obtain ⟨a, kvs, ex, _, e, _⟩ := id q1
  subst ex
  obtain rfl : v = Value.ref a := r1
  obtain ⟨h1, h2, _⟩ := isD_at I1 (.inl ⟨kvs, e⟩)
  exact ⟨"dict", "dict.copy", PySem.F.plainAttrs_dict, PySem.F.slot_dict_copy, PySem.F.type_dict_copy, h1, h2, Calls.callWith_builtin rfl (PySem.evalArgs_none (mtd_copy pins s1 σ H1 (.ref a) [] _ [] Q I1 rfl .nil q1))⟩
def dCopy (o : Bool) (da : DE) : DE := fun sl M ED Q => da sl M ED fun x M1 => vw M1 x fun w => ∃ kvs, w = .dic kvs ∧ al o (.dic kvs) M1 Q
section
variable {X : Cx} {E : L2.St → XK} {da db : DE}
theorem de_dcopy (b : Bool) {o : Expr} {apos cpos : Pos} (ho : DEx X E o da) (hbase : attributeBase o "copy" X.env (eval o X.env) = eval o X.env := by rfl) (hline : (apos.endLine == cpos.line) = true := by rfl) : DEx X E (.Call (.Attribute o "copy" apos) [] [] cpos) (dCopy b da) := by
  obtain ⟨ta, p1, s1⟩ := ho
  refine ⟨_, pe_dcopy p1 hbase hline, fun S0 sl M σ H Q QD ED k xl hd l => s1 S0 sl M σ H _ _ ED k xl hd fun d1 M1 x H1 m1 x1 r1 q1 => ?_⟩
  obtain ⟨w, ⟨kvs, rfl, q⟩, rw0⟩ := vw_of m1 r1 q1
  obtain ⟨a, vs, rfl, h1, rk⟩ := rw0.dic_inv
  exact ⟨a, vs, rfl, rfl, h1, al_dic m1 rk q (l.ext x1)⟩
def dGet1 (da db : DE) : DE := fun sl M ED Q => da sl M ED fun x M1 => vw M1 x (fun w => ∃ kvs, w = .dic kvs) ∧ db sl M1 ED fun y M2 => vw M2 x fun w => ∃ kvs k, w = .dic kvs ∧ keyD y = some k ∧ Q ((lookD kvs k).getD .non) M2
theorem de_get1 {o e : Expr} {apos cpos : Pos} (hu : X.A.units + 64 < cLine) (ho : DEx X E o da) (he : DEx X E e db) (m : M1 X o "get" apos e cpos := by exact ⟨rfl, rfl, rfl, rfl⟩) : DEx X E (.Call (.Attribute o "get" apos) [e] [] cpos) (dGet1 da db) := by
  obtain ⟨ta, p1, s1⟩ := ho
  obtain ⟨tb, p2, s2⟩ := he
  refine ⟨_, pe_dget1 (by omega) p1 p2 m, fun S0 sl M σ H Q QD ED k xl hd l => s1 S0 sl M σ H _ _ ED k xl hd fun d1 M1 x H1 m1 x1 r1 q1 => ?_⟩
  obtain ⟨q0, q1⟩ := q1
  obtain ⟨w, ⟨kvs, rfl⟩, rw0⟩ := vw_of m1 r1 q0
  obtain ⟨a, vs, rfl, h1, _⟩ := rw0.dic_inv
  refine ⟨a, rfl, .inl ⟨vs, h1⟩, s2 S0 sl M1 σ H1 _ _ ED (k.ext m1 x1) (xl.ext x1) q1 fun d2 M2 y H2 m2 x2 r2 q2 => ?_⟩
  obtain ⟨w, ⟨kvs, k', rfl, ek, q⟩, rw3⟩ := vw_of m2 (r1.ext x2) q2
  obtain ⟨a', vs', ea, h3, rk⟩ := rw3.dic_inv
  cases ea
  cases keyD_V (.imm r2) ek
  refine ⟨_, dgetR (k := k') h3, ?_⟩
  have x4 := x1.trans x2
  cases e : lookD kvs k' with
  | none => rw [e] at q; rw [rk.valN e]; exact l _ M2 _ H2 m2 x4 .non q
  | some d =>
    rw [e] at q
    obtain ⟨v, e2, r⟩ := rk.val e
    rw [e2]
    exact l _ M2 _ H2 m2 x4 r q
/-- list(range(a, b)) -/
def rgD (a b : Int) : List D := (List.range (b - a).toNat).map fun i => D.int (a + (i : Nat))
theorem reps_rg {K : PySem.W.Frag} {S : Mark} {H : Hp} (a b : Int) : Reps K S H (rgV a b) (rgD a b) := by
  unfold rgV rgD
  induction List.range (b - a).toNat with
  | nil => exact .nil
  | cons i r ih => exact .cons (.int _) ih
def dLstRg1 (o : Bool) (da : DE) : DE := fun sl M ED Q => da sl M ED fun x M1 => ∃ n, x = .int n ∧ RgOk 0 n ∧ al o (.lst (rgD 0 n)) M1 Q
def dLstRg2 (o : Bool) (da db : DE) : DE := fun sl M ED Q => da sl M ED fun x M1 => db sl M1 ED fun y M2 => ∃ i j, x = .int i ∧ y = .int j ∧ RgOk i j ∧ al o (.lst (rgD i j)) M2 Q
theorem de_lstRg1 (o : Bool) {a : Expr} {p pos p2 pos2 : Pos} (hc : X.calm = true) (hm : X.mg "list" = none) (hr : X.mg "range" = none) (ha : DEx X E a da) (hg : Gl X "list" := by rfl) (hg2 : Gl X "range" := by rfl)
    (na : starEach [a] X.env = (false, eval a X.env) :: starEach [] X.env := by rfl) (nb : starEach [.Call (.Name "range" p) [a] [] pos] X.env = (false, eval (.Call (.Name "range" p) [a] [] pos) X.env) :: starEach [] X.env := by rfl) : DEx X E (.Call (.Name "list" p2) [.Call (.Name "range" p) [a] [] pos] [] pos2) (dLstRg1 o da) := by
  obtain ⟨ta, p1, s1⟩ := ha
  refine ⟨_, pe_listRg hc hg hm (prg_1 hg2 hr p1 na) nb, fun S0 sl M σ H Q QD ED k xl hd l => s1 S0 sl M σ H _ _ ED k xl hd fun d1 M1 x H1 m1 x1 r1 q1 => ?_⟩
  obtain ⟨n, rfl, ok, q⟩ := q1
  cases r1
  exact ⟨n, rfl, ok, al_lst m1 (reps_rg 0 n) q (l.ext x1)⟩
theorem de_lstRg2 (o : Bool) {a b : Expr} {p pos p2 pos2 : Pos} (hc : X.calm = true) (hm : X.mg "list" = none) (hr : X.mg "range" = none) (ha : DEx X E a da) (hb : DEx X E b db) (hg : Gl X "list" := by rfl) (hg2 : Gl X "range" := by rfl)
    (na : starEach [a, b] X.env = (false, eval a X.env) :: starEach [b] X.env := by rfl) (na2 : starEach [b] X.env = (false, eval b X.env) :: starEach [] X.env := by rfl) (np : (backTo pos (starEach [b] X.env)).any (·.1) = false := by rfl)
    (nb : starEach [.Call (.Name "range" p) [a, b] [] pos] X.env = (false, eval (.Call (.Name "range" p) [a, b] [] pos) X.env) :: starEach [] X.env := by rfl) : DEx X E (.Call (.Name "list" p2) [.Call (.Name "range" p) [a, b] [] pos] [] pos2) (dLstRg2 o da db) := by
  obtain ⟨ta, p1, s1⟩ := ha
  obtain ⟨tb, p2, s2⟩ := hb
  refine ⟨_, pe_listRg hc hg hm (prg_2 hg2 hr p1 p2 na na2 np) nb, fun S0 sl M σ H Q QD ED k xl hd l => s1 S0 sl M σ H _ _ ED k xl hd fun d1 M1 x H1 m1 x1 r1 q1 => ?_⟩
  refine s2 S0 sl M1 σ H1 _ _ ED (k.ext m1 x1) (xl.ext x1) q1 fun d2 M2 y H2 m2 x2 r2 q2 => ?_
  obtain ⟨i, j, rfl, rfl, ok, q⟩ := q2
  cases r1
  cases r2
  exact ⟨i, j, rfl, rfl, ok, al_lst m2 (reps_rg i j) q (l.ext (x1.trans x2))⟩
end
end OD

/-! LPot: the pot of draws. -/
namespace Once
open PySem PySem.Spec L2 OD
theorem small1 (n : Nat) (h : n ≤ 1000) : n ≤ sizeLine := Nat.le_of_lt (small1000 h)
theorem at0 {x : D} {r : List D} : atI (x :: r) 0 = some x := atI_nat (j := 0) rfl
theorem ixN_nat {n j : Nat} (h : j < n) : ixN n (j : Int) = some j := by
  unfold ixN
  rw [if_pos (Int.natCast_nonneg j), if_pos (by omega), Int.toNat_natCast]
theorem ix0 {x : D} {r : List D} : ixN (x :: r).length 0 = some 0 := ixN_nat (j := 0) (by simp)
theorem seq0 {x : D} {r : List D} : seqIndex? 0 (x :: r).length = some 0 := (ixN_seq ix0).1
structure PotC where
  gs : List Int
  ss : List Int
  t : Int
  w : Int
def potM (p g s : Addr) (c : PotC) : Mem := [(g, .lst (c.gs.map .int)), (s, .lst (c.ss.map .int)), (p, .lst [.ref g, .ref s, .int c.t, .int c.w])]
def fd_law_draw : FD := fun ds M _ Q => ∃ (p g s : Addr) (c : PotC) (n : Int), ds = [.ref p, .int n] ∧ M = potM p g s c ∧ c.ss ≠ [] ∧ 0 < n ∧ n.natAbs.log2 < 9000 ∧
  ∀ (r : Int) (c' : PotC), 0 ≤ r → r < n → c'.ss ≠ [] → Q (.int r) (potM p g s c')
theorem len_law_draw : ∀ ds M ED QD, fd_law_draw ds M ED QD → ds.length = 2 := fun ds M ED QD ⟨p, g, s, c, n, e, _⟩ => by rw [e]; rfl
def td_law_draw : DS :=
  (dSeq (dAsg (dOp ixD (dVar 0) (dC (.int 2))) (dName 2))
  (dSeq (dSetIx (dOp (addD false) (dVar 2) (dC (.int 1))) (dVar 0) (dC (.int 2)))
  (dSeq (dIfS (dTest (dOp gtD (dCB lenD (dCons (dOp ixD (dVar 0) (dC (.int 0))) dNil)) (dC (.int 0)))) (dSeq (dAsg (dOp ixD (dOp ixD (dVar 0) (dC (.int 0))) (dC (.int 0))) (dName 4))
  (dSeq (dSetIx (dOp divD (dVar 4) (dVar 1)) (dOp ixD (dVar 0) (dC (.int 0))) (dC (.int 0)))
  (dSeq (dIfS (dTest (dOp ltD (dVar 4) (dVar 1))) (dDrop (dMth popAtF (dOp ixD (dVar 0) (dC (.int 0))) (dCons (dC (.int 0)) dNil))) dNext)
  (dRet false (dOp modD (dCB intD (dCons (dVar 4) dNil)) (dVar 1)))))) dNext)
  (dSeq (dAsg (dOp (addD false) (dOp (addD false) (dOp (mulD false) (dOp ixD (dOp ixD (dVar 0) (dC (.int 1))) (dOp modD (dCB intD (dCons (dVar 2) dNil)) (dCB lenD (dCons (dOp ixD (dVar 0) (dC (.int 1))) dNil)))) (dC (.int 7919))) (dOp (mulD false) (dC (.int 104729)) (dVar 2))) (dOp (mulD false) (dOp ixD (dVar 0) (dC (.int 3))) (dC (.int 31)))) (dName 3))
  (dSeq (dAsg (dOp modD (dCB intD (dCons (dOp (addD false) (dOp (mulD false) (dVar 3) (dC (.int 48271))) (dC (.int 11))) dNil)) (dC (.int 2147483647))) (dName 4))
  (dSeq (dAsg (dOp modD (dCB intD (dCons (dOp (mulD false) (dVar 4) (dOp (addD false) (dOp divD (dVar 4) (dC (.int 1009))) (dC (.int 69621)))) dNil)) (dC (.int 2147483629))) (dName 4))
  (dSeq (dAsg (dOp modD (dCB intD (dCons (dOp (addD false) (dOp (mulD false) (dVar 4) (dOp (addD false) (dOp divD (dVar 4) (dC (.int 2003))) (dC (.int 40692)))) (dVar 2)) dNil)) (dC (.int 2147483399))) (dName 4))
  (dRet false (dOp modD (dCB intD (dCons (dOp divD (dVar 4) (dC (.int 64))) dNil)) (dVar 1))))))))))
theorem rd_law_draw : ∀ ds M ED QD, fd_law_draw ds M ED QD → td_law_draw (outs M QD) (startD ["_law_pot_here", "_law_limit", "_law_turn", "_law_seed", "_law_number"] ds) M := by
  rintro ds M ED QD ⟨p, g, s, ⟨gs, ss, t, w⟩, n, rfl, rfl, hs, hn, hl, h⟩
  -- turn = pot[2]; pot[2] = turn + 1; if len(pot[0]) > 0
  refine ⟨_, rfl, 2, _, rfl, _, rfl, ?_⟩
  refine ⟨_, rfl, _, rfl, 2, _, rfl, 2, rfl, ?_⟩
  refine ⟨_, rfl, 2, _, rfl, _, rfl, 0, _, rfl, _, rfl, ite2 (fun e => ?_) (fun e => ?_)⟩
  · cases gs with
    | nil => exact absurd e (by simp)
    | cons x r =>
      -- number = pot[0][0]; pot[0][0] = number // limit; if number < limit: pot[0].pop(0); return int(number) % limit
      refine ⟨_, rfl, 2, _, rfl, _, rfl, 0, _, rfl, _, at0, ?_⟩
      refine ⟨_, rfl, _, rfl, ⟨hn, hl⟩, _, rfl, 2, _, rfl, _, rfl, 0, _, rfl, 0, ix0, ?_⟩
      have p0 : 0 ≤ x % n := Int.emod_nonneg _ (by omega)
      have p1 : x % n < n := Int.emod_lt_of_pos _ hn
      refine ⟨_, rfl, _, rfl, _, rfl, ite2 (fun e2 => ?_) (fun e2 => ?_)⟩
      · refine ⟨_, rfl, 2, _, rfl, _, rfl, ⟨0, _, rfl⟩, 0, _, rfl, by decide, by decide, 0, _, seq0, rfl, ?_⟩
        exact ⟨_, rfl, _, rfl, hn, .all rfl (h _ ⟨r, ss, t + 1, w⟩ p0 p1 hs)⟩
      · exact ⟨_, rfl, _, rfl, hn, .all rfl (h _ ⟨x / n :: r, ss, t + 1, w⟩ p0 p1 hs)⟩
  · -- seed = ..; number = .. (thrice); return ..
    have hl0 : 0 < (ss.length : Int) := by
      cases ss with
      | nil => exact absurd rfl hs
      | cons _ _ => simp
    have q0 : 0 ≤ t % (ss.length : Int) := Int.emod_nonneg _ (by omega)
    have q1 : t % (ss.length : Int) < ss.length := Int.emod_lt_of_pos _ hl0
    obtain ⟨j, hj⟩ : ∃ j : Nat, t % (ss.length : Int) = j := ⟨(t % (ss.length : Int)).toNat, by omega⟩
    have hjl : j < ss.length := by omega
    have hget : atI (ss.map D.int) (t % ((ss.map D.int).length : Int)) = some (D.int ss[j]) := by
      rw [List.length_map, hj]
      refine atI_nat ?_
      rw [List.getElem?_map, List.getElem?_eq_getElem hjl]
      rfl
    have md : ∀ i : Int, MulOk i 7919 ∧ MulOk 104729 i ∧ MulOk i 31 ∧ MulOk i 48271 := fun i =>
      ⟨.inl (.inr ⟨by decide, by decide⟩), .inl (.inl ⟨by decide, by decide⟩), .inl (.inr ⟨by decide, by decide⟩), .inl (.inr ⟨by decide, by decide⟩)⟩
    refine ⟨_, rfl, 2, _, rfl, _, rfl, _, rfl, _, rfl, 2, _, rfl, _, rfl, 1, _, rfl, by show 0 < (((ss.map D.int).length : Nat) : Int); rw [List.length_map]; exact hl0, 1, _, rfl, _, hget, (md _).1, _, rfl, (md _).2.1, _, rfl, 2, _, rfl, _, rfl, (md _).2.2.1, ?_⟩
    refine ⟨_, rfl, (md _).2.2.2, by decide, ?_⟩
    generalize h1 : (ss[j] * 7919 + 104729 * t + w * 31) * 48271 + 11 = n1
    have a0 : 0 ≤ n1 % 2147483647 := Int.emod_nonneg _ (by decide)
    have a1 : n1 % 2147483647 < 2147483647 := Int.emod_lt_of_pos _ (by decide)
    refine ⟨_, rfl, _, rfl, ⟨by decide, by decide⟩, .inl (.inl ⟨by show -(2 ^ 64) < n1 % 2147483647; omega, by show n1 % 2147483647 < 2 ^ 64; omega⟩), by decide, ?_⟩
    generalize h2 : n1 % 2147483647 * (n1 % 2147483647 / 1009 + 69621) = n2
    have b0 : 0 ≤ n2 % 2147483629 := Int.emod_nonneg _ (by decide)
    have b1 : n2 % 2147483629 < 2147483629 := Int.emod_lt_of_pos _ (by decide)
    refine ⟨_, rfl, _, rfl, ⟨by decide, by decide⟩, .inl (.inl ⟨by show -(2 ^ 64) < n2 % 2147483629; omega, by show n2 % 2147483629 < 2 ^ 64; omega⟩), _, rfl, by decide, ?_⟩
    refine ⟨_, rfl, ⟨by decide, by decide⟩, _, rfl, hn, ?_⟩
    exact .all rfl (h _ ⟨gs, ss, t + 1, w⟩ (Int.emod_nonneg _ (by omega)) (Int.emod_lt_of_pos _ hn) hs)
/-! the pot of a script -/
def fd_law_pot : FD := fun ds M _ Q => ∃ ns : List Int, ds = [.scr ns] ∧ M = [] ∧ ns.length ≤ 63 ∧ ∀ (p g s : Addr) (c : PotC), c.ss ≠ [] → Q (.ref p) (potM p g s c)
theorem len_law_pot : ∀ ds M ED QD, fd_law_pot ds M ED QD → ds.length = 1 := fun ds M ED QD ⟨ns, e, _⟩ => by rw [e]; rfl
def td_law_pot : DS :=
  (dSeq (dAsg (dLc false (diSeq (dSl false (dVar 0) dNoPart (dPart (dC (.int 63))))) [4] (dName 4) dYes (dCB intD (dCons (dVar 4) dNil))) (dName 1))
  (dSeq (dAsg (dLc true (diSeq (dVar 1)) [4] (dName 4) (dTest (dOp geD (dCB absD (dCons (dVar 4) dNil)) (dOp powD (dC (.int 10)) (dC (.int 18))))) (dCB absD (dCons (dVar 4) dNil))) (dName 2))
  (dSeq (dAsg (dOp (addD true) (dLc false (diSeq (dVar 1)) [4] (dName 4) (dTest (dOp ltD (dCB absD (dCons (dVar 4) dNil)) (dOp powD (dC (.int 10)) (dC (.int 18))))) (dOp modD (dCB intD (dCons (dVar 4) dNil)) (dC (.int 1000000007)))) (dLst false (dCons (dOp (addD false) (dCB lenD (dCons (dVar 1) dNil)) (dC (.int 1))) dNil))) (dName 3))
  (dRet false (dLst true (dCons (dVar 2) (dCons (dVar 3) (dCons (dC (.int 0)) (dCons (dOp modD (dCB intD (dCons (dCB sumD (dCons (dVar 3) dNil)) dNil)) (dC (.int 999983))) dNil)))))))))
/-- a comprehension over an immutable list of ints: of those that are wanted f -/
theorem lc_ints {o : Bool} {sl : Slots} {M : Mem} {ED : XD} {Q : DK} {da : DE} {i : Nat} {tt : DT} {te : DE} {ns : List Int} (p : Int → Bool) (f : Int → Int)
    (hd : ∀ RD : Itm → Mem → Prop, RD (itSeq (ns.map .int) fun _ => True) M → diSeq da sl M ED RD) (hz : ns.length ≤ 1000)
    (ht : ∀ (x : Int) (Q : Bool → Mem → Prop), Q (p x) M → tt ((wipeD sl [i]).set i (some (.int x))) M NoX Q)
    (he : ∀ (x : Int) (Q : DK), Q (.int (f x)) M → te ((wipeD sl [i]).set i (some (.int x))) M NoX Q)
    (hq : al o (.lst (((ns.filter p).map f).map .int)) M Q) : dLc o (diSeq da) [i] (dName i) tt te sl M ED Q := by
  refine hd _ ⟨fun j acc M' => M' = M ∧ acc = (((ns.take j).filter p).map f).map .int, ⟨rfl, rfl⟩, fun _ _ _ _ _ => trivial, fun j acc M' hj h => ?_, fun acc M' h => ?_⟩
  · obtain ⟨rfl, rfl⟩ := h
    have hj' : j < ns.length := by simpa [itSeq] using hj
    have e : (itSeq (ns.map D.int) fun _ => True).at_ j = .int ns[j] := by
      show ((ns.map D.int)[j]?).getD .non = _
      rw [List.getElem?_map, List.getElem?_eq_getElem hj']
      rfl
    have tk : ns.take (j + 1) = ns.take j ++ [ns[j]] := by rw [List.take_add_one, List.getElem?_eq_getElem hj']; rfl
    rw [e]
    refine ht _ _ ?_
    cases hp : p ns[j] with
    | true =>
      refine iteT (he _ _ ⟨?_, rfl, ?_⟩)
      · have h1 : ((ns.take j).filter p).length ≤ (ns.take j).length := List.length_filter_le _ _
        have h2 : (ns.take j).length ≤ ns.length := by rw [List.length_take]; omega
        rw [List.length_map, List.length_map]
        exact small1000 (by omega)
      · rw [tk, List.filter_append, List.map_append, List.map_append, List.filter_cons_of_pos hp]
        rfl
    | false =>
      refine iteF ⟨rfl, ?_⟩
      rw [tk, List.filter_append, List.filter_cons_of_neg (by rw [hp]; exact Bool.false_ne_true)]
      simp
  · obtain ⟨rfl, rfl⟩ := h
    have e : (itSeq (ns.map D.int) fun _ => True).n = ns.length := by show (ns.map D.int).length = _; rw [List.length_map]
    rw [e, List.take_length]
    exact hq
theorem al_f {n : N} {M : Mem} {Q : DK} (h : Q n.toD M) : al false n M Q := h
theorem st_lc {o : Bool} {sl : Slots} {M : Mem} {da : DE} {i t : Nat} {tt : DT} {te : DE} {ns : List Int} {rest : DS} {Dd : DEnds} (p : Int → Bool) (f : Int → Int)
    (hd : ∀ RD : Itm → Mem → Prop, RD (itSeq (ns.map .int) fun _ => True) M → diSeq da sl M (Dd.ex sl) RD) (hz : ns.length ≤ 1000)
    (ht : ∀ (x : Int) (Q : Bool → Mem → Prop), Q (p x) M → tt ((wipeD sl [i]).set i (some (.int x))) M NoX Q)
    (he : ∀ (x : Int) (Q : DK), Q (.int (f x)) M → te ((wipeD sl [i]).set i (some (.int x))) M NoX Q)
    (hq : al o (.lst (((ns.filter p).map f).map .int)) M fun d M1 => rest Dd (sl.set t (some d)) M1) : dSeq (dAsg (dLc o (diSeq da) [i] (dName i) tt te) (dName t)) rest Dd sl M :=
  lc_ints p f hd hz ht he hq
theorem rd_law_pot : ∀ ds M ED QD, fd_law_pot ds M ED QD → td_law_pot (outs M QD) (startD ["_law_script", "_law_cells", "_law_greats", "_law_smalls", "_law_item"] ds) M := by
  rintro ds M ED QD ⟨ns, rfl, rfl, hn, h⟩
  -- cells
  have hc : (cutL ns none (some 63)) = ns := by
    unfold cutL
    rw [HT.sIx_none, show HT.sIx ns.length ns.length (some 63) = min 63 ns.length from HT.sIx_nat _ _ 63]
    rw [List.drop_zero, List.take_of_length_le (by omega)]
  refine st_lc (ns := ns) (fun _ => true) id ?_ (by omega) ?_ ?_ ?_
  · intro RD hr
    refine ⟨_, rfl, _, rfl, ?_⟩
    show RD (itSeq ((cutL ns none (some 63)).map .int) _) _
    rw [hc]
    exact hr
  · exact fun x Q q => q
  · exact fun x Q q => ⟨_, rfl, q⟩
  have e1 : ((ns.filter fun _ => true).map id) = ns := by simp
  rw [e1]
  -- greats
  refine al_f ?_
  refine st_lc (ns := ns) (fun x => decide (10 ^ 18 ≤ (if x < 0 then -x else x))) (fun x => if x < 0 then -x else x) ?_ (by omega) ?_ ?_ ?_
  · exact fun RD hr => ⟨_, rfl, hr⟩
  · exact fun x Q q => ⟨_, rfl, ⟨by decide, by decide, by decide⟩, _, rfl, q⟩
  · exact fun x Q q => ⟨_, rfl, q⟩
  intro g hg
  -- smalls
  refine lc_ints (ns := ns) (fun x => decide ((if x < 0 then -x else x) < 10 ^ 18)) (fun x => x % 1000000007) ?_ (by omega) ?_ ?_ ?_
  · exact fun RD hr => ⟨_, rfl, hr⟩
  · exact fun x Q q => ⟨_, rfl, ⟨by decide, by decide, by decide⟩, _, rfl, q⟩
  · exact fun x Q q => ⟨_, rfl, by decide, q⟩
  have hz : ∀ l : List Int, (l.map D.int).length = l.length := fun l => List.length_map _
  generalize hA : ((ns.filter fun x => decide ((if x < 0 then -x else x) < 10 ^ 18)).map fun x => x % 1000000007) = A
  have hAl : A.length ≤ 63 := by
    rw [← hA, List.length_map]
    exact Nat.le_trans (List.length_filter_le _ _) hn
  refine ⟨_, rfl, small1 1 (by decide), ?_, ?_⟩
  · show (A.map D.int).length + 1 ≤ sizeLine
    rw [hz]
    exact small1 _ (by omega)
  intro s hs
  have hB : A.map D.int ++ [D.int (((ns.map D.int).length : Int) + 1)] = (A ++ [((ns.map D.int).length : Int) + 1]).map D.int := by rw [List.map_append]; rfl
  refine ⟨_, rfl, _, rfl, _, rfl, 1, _, rfl, _, hB, by decide, small1 4 (by decide), fun p hp => ?_⟩
  refine .all rfl ?_
  rw [hB]
  exact h p g s ⟨(ns.filter fun x => decide (10 ^ 18 ≤ (if x < 0 then -x else x))).map fun x => if x < 0 then -x else x, A ++ [((ns.map D.int).length : Int) + 1], 0, (A ++ [((ns.map D.int).length : Int) + 1]).sum % 999983⟩ (by simp)
end Once

/-! LUt: lists of ints as data; ranges; comprehensions. -/
namespace Once
open PySem PySem.Spec L2 OD
theorem vw_imp {M : Mem} {h : D} {P P' : D → Prop} (v : vw M h P) (f : ∀ d, P d → P' d) : vw M h P' := by
  unfold vw at *
  cases h with
  | ref p => obtain ⟨k, n, e, q⟩ := v; exact ⟨k, n, e, f _ q⟩
  | _ => exact f _ v
abbrev li (xs : List Int) : D := .lst (xs.map .int)
abbrev lli (hs : List (List Int)) : D := .lst (hs.map li)
theorem atI_i {xs : List Int} {i : Int} (j : Nat) (e : i = j) (h : j < xs.length) : atI (xs.map D.int) i = some (.int (xs.getD j 0)) := by
  subst e
  refine atI_nat ?_
  rw [List.getElem?_map, List.getD_eq_getElem?_getD, List.getElem?_eq_getElem h]
  rfl
theorem atI_l {hs : List (List Int)} {i : Int} (j : Nat) (e : i = j) (h : j < hs.length) : atI (hs.map li) i = some (li (hs.getD j [])) := by
  subst e
  refine atI_nat ?_
  rw [List.getElem?_map, List.getD_eq_getElem?_getD, List.getElem?_eq_getElem h]
  rfl
/-- a comprehension: one thing for each that is wanted -/
theorem lc_map {o : Bool} {sl : Slots} {M : Mem} {ED : XD} {Q : DK} {di : DI} {i : Nat} {tt : DT} {te : DE} (it : Itm) (p : Nat → Bool) (f : Nat → D)
    (hd : ∀ RD : Itm → Mem → Prop, RD it M → di sl M ED RD) (hg : it.gd M) (hz : it.n ≤ 10000)
    (ht : ∀ j, j < it.n → ∀ Q : Bool → Mem → Prop, Q (p j) M → tt ((wipeD sl [i]).set i (some (it.at_ j))) M NoX Q)
    (he : ∀ j, j < it.n → p j = true → ∀ Q : DK, Q (f j) M → te ((wipeD sl [i]).set i (some (it.at_ j))) M NoX Q)
    (hq : al o (.lst (((List.range it.n).filter p).map f)) M Q) : dLc o di [i] (dName i) tt te sl M ED Q := by
  refine hd _ ⟨fun j acc M' => M' = M ∧ acc = ((List.range j).filter p).map f, ⟨rfl, rfl⟩, fun _ _ _ _ h => by rw [h.1]; exact hg, fun j acc M' hj h => ?_, fun acc M' h => ?_⟩
  · obtain ⟨rfl, rfl⟩ := h
    refine ht j hj _ ?_
    cases hp : p j with
    | true =>
      refine iteT (he j hj hp _ ⟨?_, rfl, ?_⟩)
      · have h1 : ((List.range j).filter p).length ≤ (List.range j).length := List.length_filter_le _ _
        rw [List.length_range] at h1
        rw [List.length_map]
        exact Nat.lt_of_le_of_lt (by omega : _ ≤ 10000) (by decide)
      · rw [List.range_succ, List.filter_append, List.map_append, List.filter_cons_of_pos hp]
        rfl
    | false =>
      refine iteF ⟨rfl, ?_⟩
      rw [List.range_succ, List.filter_append, List.filter_cons_of_neg (by rw [hp]; exact Bool.false_ne_true)]
      simp
  · obtain ⟨rfl, rfl⟩ := h
    exact hq
theorem filter_all {α : Type} (l : List α) : (l.filter fun _ => true) = l := by simp
/-- a comprehension of ints over a range, with no condition -/
theorem lc_rng {sl : Slots} {M : Mem} {ED : XD} {Q : DK} {di : DI} {i : Nat} {te : DE} (lo c : Int) (n : Nat) (f : Nat → Int)
    (hd : ∀ RD : Itm → Mem → Prop, RD (itRange lo c n) M → di sl M ED RD) (hz : n ≤ 1000)
    (he : ∀ j, j < n → ∀ Q : DK, Q (.int (f j)) M → te ((wipeD sl [i]).set i (some (.int (lo + (j : Nat) * c)))) M NoX Q)
    (hq : Q (li ((List.range n).map f)) M) : dLc false di [i] (dName i) dYes te sl M ED Q := by
  refine lc_map (itRange lo c n) (fun _ => true) (fun j => .int (f j)) hd trivial (Nat.le_trans hz (by decide)) (fun j hj Q q => q) (fun j hj _ Q q => he j hj Q q) ?_
  rw [filter_all]
  show Q (.lst ((List.range n).map fun j => D.int (f j))) M
  have e : (List.range n).map (fun j => D.int (f j)) = ((List.range n).map f).map .int := by rw [List.map_map]; rfl
  rw [e]
  exact hq
/-- a loop over a range -/
theorem for_rng {di : DI} {i : Nat} {tb : DS} {Dd : DEnds} {sl : Slots} {M : Mem} (lo c : Int) (n : Nat) (W : Nat → Slots → Mem → Prop) (hd : ∀ RD : Itm → Mem → Prop, RD (itRange lo c n) M → di sl M (Dd.ex sl) RD) (w0 : W 0 sl M)
    (hs : ∀ j sl M, j < n → W j sl M → tb { Dd with nx := W (j + 1), ct := W (j + 1), bk := Dd.nx } (sl.set i (some (.int (lo + (j : Nat) * c)))) M)
    (hq : ∀ sl M, W n sl M → Dd.nx sl M) : dFor di (dName i) tb Dd sl M :=
  hd _ ⟨W, w0, fun _ _ _ _ _ => trivial, hs, hq⟩
theorem rg2 {i j : Int} (h : -(2 ^ 62) ≤ i := by omega) (h2 : i < 2 ^ 62 := by omega) (h3 : -(2 ^ 62) ≤ j := by omega) (h4 : j < 2 ^ 62 := by omega) : -(2 ^ 62) ≤ i ∧ i < 2 ^ 62 ∧ -(2 ^ 62) ≤ j ∧ j < 2 ^ 62 := ⟨h, h2, h3, h4⟩
theorem sum_range_succ (f : Nat → Int) (n : Nat) : ((List.range (n + 1)).map f).sum = ((List.range n).map f).sum + f n := by
  rw [List.range_succ, List.map_append, List.sum_append]
  simp
theorem mul_big {i j : Int} (h : i.natAbs.log2 < 100000) (h2 : j.natAbs.log2 < 100000) : MulOk i j := .inr (by unfold CMulW; omega)
end Once

/-! F1: programs as plain functions over values: what a slot holds, how that stands in the memory of OD. -/
namespace F
open PySem PySem.Spec L2 OD

/-- a choice that nothing works out -/
noncomputable def cif {α : Type} (p : Prop) (a b : α) : α := @ite α p (Classical.propDecidable p) a b
theorem cif_pos {α : Type} {p : Prop} {a b : α} (h : p) : cif p a b = a := if_pos h
theorem cif_neg {α : Type} {p : Prop} {a b : α} (h : ¬ p) : cif p a b = b := if_neg h
@[simp] theorem cif_true {α : Type} {a b : α} : cif True a b = a := if_pos trivial
@[simp] theorem cif_false {α : Type} {a b : α} : cif False a b = b := if_neg id
theorem cif_inv {α : Type} {p : Prop} {a z : α} (h : cif p (some a) none = some z) : p ∧ a = z := by
  by_cases hp : p
  · rw [cif_pos hp] at h; exact ⟨hp, Option.some.inj h⟩
  · rw [cif_neg hp] at h; cases h
/-- what a slot holds: data, or an owned object -/
inductive Sv where
  | im (d : D) | lst (xs : List D) | dic (kvs : List (Key × D)) | ins (C : Addr) (fs : List (Str × D)) | pot (c : Once.PotC) | lok (a : Nat) (kvs : List (Key × D))
abbrev Sl := List (Option Sv)
inductive R (α : Type) where
  | ok (a : α) (s : Sl) | ex (c : Value) (f : Option (List (Str × D))) (s : Sl) | bad
inductive O where
  | nx (s : Sl) | rt (w : Sv) (s : Sl) | bk (s : Sl) | ct (s : Sl) | ex (c : Value) (f : Option (List (Str × D))) (s : Sl) | bad
def R.bind {α β : Type} (r : R α) (f : α → Sl → R β) : R β := match r with
  | .ok a s => f a s
  | .ex c g s => .ex c g s
  | .bad => .bad
def R.thn {α : Type} (r : R α) (f : α → Sl → O) : O := match r with
  | .ok a s => f a s
  | .ex c g s => .ex c g s
  | .bad => .bad
def O.then (o : O) (f : Sl → O) : O := match o with
  | .nx s => f s
  | o => o
@[simp] theorem ok_bind {α β : Type} (a : α) (s : Sl) (f : α → Sl → R β) : (R.ok a s).bind f = f a s := rfl
@[simp] theorem ex_bind {α β : Type} (c g) (s : Sl) (f : α → Sl → R β) : (R.ex c g s : R α).bind f = .ex c g s := rfl
@[simp] theorem ok_thn {α : Type} (a : α) (s : Sl) (f : α → Sl → O) : (R.ok a s).thn f = f a s := rfl
@[simp] theorem ex_thn {α : Type} (c g) (s : Sl) (f : α → Sl → O) : (R.ex c g s : R α).thn f = .ex c g s := rfl
@[simp] theorem nx_then (s : Sl) (f : Sl → O) : (O.nx s).then f = f s := rfl
@[simp] theorem rt_then (w : Sv) (s : Sl) (f : Sl → O) : (O.rt w s).then f = .rt w s := rfl
@[simp] theorem bk_then (s : Sl) (f : Sl → O) : (O.bk s).then f = .bk s := rfl
@[simp] theorem ct_then (s : Sl) (f : Sl → O) : (O.ct s).then f = .ct s := rfl
@[simp] theorem exo_then (c g) (s : Sl) (f : Sl → O) : (O.ex c g s).then f = .ex c g s := rfl

/-! ### what a slot holds, in the memory -/
/-- dicts that are walked, and which is which -/
structure Lk where
  fr : Mem
  tg : Nat → Option (Addr × N)
  wf : ∀ a e, tg a = some e → e ∈ fr
def lk0 : Lk := ⟨[], fun _ => none, fun _ _ h => nomatch h⟩
def Ent (lk : Lk) : Sv → D → Mem → Prop
  | .im d, d', E => d' = d ∧ E = []
  | .lst xs, d', E => ∃ p, d' = .ref p ∧ E = [(p, .lst xs)]
  | .dic xs, d', E => ∃ p, d' = .ref p ∧ E = [(p, .dic xs)]
  | .ins C fs, d', E => ∃ p dx, d' = .ref p ∧ E = [(p, .ins C dx fs)]
  | .pot c, d', E => ∃ p g s, d' = .ref p ∧ E = Once.potM p g s c ∧ (keys E).Nodup
  | .lok a xs, d', E => E = [] ∧ ∃ p od ws, d' = .ref p ∧ lk.tg a = some (p, N.lok od ws xs)
/-- what is fixed while a def runs: how many arguments, what they own -/
structure Cz where
  np : Nat
  M0 : Mem
  ks : Nat → List Addr
  /-- dicts that are walked -/
  lk : Lk
/-- w, d: a value in hand -/
structure Rl (c : Cz) (fs : Sl) (sl : Slots) (M : Mem) (w : Sv) (d : D) (E : Nat → Mem) : Prop where
  nd : (keys M).Nodup
  len : fs.length = sl.length
  tmp : Ent c.lk w d (E 0)
  slt : ∀ i sv, fs[i]? = some (some sv) → ∃ d, sl[i]? = some (some d) ∧ Ent c.lk sv d (E (i + 1))
  sub : ∀ i e, e ∈ E i → e ∈ M
  ndE : ∀ i, (keys (E i)).Nodup
  dis : ∀ i j a, i ≠ j → a ∈ keys (E i) → a ∈ keys (E j) → False
  pin : ∀ i, i < c.np → E (i + 1) = [] ∨ keys (E (i + 1)) = c.ks i
  frs : ∀ i a, (i = 0 ∨ c.np < i) → a ∈ keys (E i) → a ∉ keys c.M0
  pre : Pre c.M0 M
  lks : ∀ e, e ∈ c.lk.fr → e ∈ M
  lkd : ∀ e, e ∈ c.lk.fr → ∀ i, e.1 ∉ keys (E i)
def RelW (c : Cz) (fs : Sl) (sl : Slots) (M : Mem) (w : Sv) (d : D) : Prop := ∃ E, Rl c fs sl M w d E
def Rel (c : Cz) (fs : Sl) (sl : Slots) (M : Mem) : Prop := RelW c fs sl M (.im .non) .non

theorem Ent.im_inv {lk : Lk} {d d' : D} {E : Mem} (h : Ent lk (.im d) d' E) : d' = d ∧ E = [] := h
theorem Rl.swap {c : Cz} {fs : Sl} {sl : Slots} {M : Mem} {w : Sv} {d : D} {E : Nat → Mem} (h : Rl c fs sl M w d E) (d' : D) : Rl c fs sl M (.im d') d' (fun i => if i = 0 then [] else E i) := by
  refine ⟨h.nd, h.len, ⟨rfl, rfl⟩, fun i sv e => ?_, fun i e he => ?_, fun i => ?_, fun i j a n ha hb => ?_, fun i hi => ?_, fun i a hi ha => ?_, h.pre, h.lks, fun e he i hi => ?_⟩
  · obtain ⟨d, h1, h2⟩ := h.slt i sv e
    exact ⟨d, h1, by rw [if_neg (Nat.succ_ne_zero i)]; exact h2⟩
  · split at he
    · cases he
    · exact h.sub i e he
  · split
    · exact List.nodup_nil
    · exact h.ndE i
  · split at ha
    · cases ha
    · split at hb
      · cases hb
      · exact h.dis i j a n ha hb
  · rw [if_neg (Nat.succ_ne_zero i)]; exact h.pin i hi
  · split at ha
    · cases ha
    · exact h.frs i a hi ha
  · split at hi
    · cases hi
    · exact h.lkd e he i hi
/-- the value in hand is let go, or another one taken that owns nothing -/
theorem RelW.im {c : Cz} {fs : Sl} {sl : Slots} {M : Mem} {w : Sv} {d : D} (h : RelW c fs sl M w d) (d' : D) : RelW c fs sl M (.im d') d' := by
  obtain ⟨E, h⟩ := h
  exact ⟨_, h.swap d'⟩
theorem RelW.rel {c : Cz} {fs : Sl} {sl : Slots} {M : Mem} {w : Sv} {d : D} (h : RelW c fs sl M w d) : Rel c fs sl M := h.im .non
theorem RelW.eq {c : Cz} {fs : Sl} {sl : Slots} {M : Mem} {d d' : D} (h : RelW c fs sl M (.im d) d') : d' = d := by
  obtain ⟨E, h⟩ := h
  exact h.tmp.1

/-! ### how functions stand for readings -/
abbrev FE := Sl → R Sv
abbrev FT := Sl → R Bool
abbrev FA := Sl → R (List D)
abbrev FS := Sl → O
/-- a thing that is looked at late -/
abbrev FO := Sl → R (Sl → Option D)
def PoE (c : Cz) (sl : Slots) (ED : XD) (Q : DK) : R Sv → Prop
  | .ok w fs => ∀ d M, RelW c fs sl M w d → Q d M
  | .ex cls f fs => ∀ M, Rel c fs sl M → ED cls f M
  | .bad => False
def SimE (fe : FE) (te : DE) : Prop := ∀ (c : Cz) (fs : Sl) (sl : Slots) (M : Mem) (ED : XD) (Q : DK), Rel c fs sl M → PoE c sl ED Q (fe fs) → te sl M ED Q
def PoB (c : Cz) (sl : Slots) (ED : XD) (Q : Bool → Mem → Prop) : R Bool → Prop
  | .ok b fs => ∀ M, Rel c fs sl M → Q b M
  | .ex cls f fs => ∀ M, Rel c fs sl M → ED cls f M
  | .bad => False
def SimT (fe : FT) (te : DT) : Prop := ∀ (c : Cz) (fs : Sl) (sl : Slots) (M : Mem) (ED : XD) (Q : Bool → Mem → Prop), Rel c fs sl M → PoB c sl ED Q (fe fs) → te sl M ED Q
def PoA (c : Cz) (sl : Slots) (ED : XD) (Q : List D → Mem → Prop) : R (List D) → Prop
  | .ok b fs => ∀ M, Rel c fs sl M → Q b M
  | .ex cls f fs => ∀ M, Rel c fs sl M → ED cls f M
  | .bad => False
def SimA (fe : FA) (te : DA) : Prop := ∀ (c : Cz) (fs : Sl) (sl : Slots) (M : Mem) (ED : XD) (Q : List D → Mem → Prop), Rel c fs sl M → PoA c sl ED Q (fe fs) → te sl M ED Q
def Late (c : Cz) (sl : Slots) (g : Sl → Option D) (x : D) : Prop := ∀ (fs : Sl) (M : Mem) (d : D) (P : D → Prop), Rel c fs sl M → g fs = some d → P d → vw M x P
def PoO (c : Cz) (sl : Slots) (ED : XD) (Q : DK) : R (Sl → Option D) → Prop
  | .ok g fs => ∀ x M, Rel c fs sl M → Late c sl g x → Q x M
  | .ex cls f fs => ∀ M, Rel c fs sl M → ED cls f M
  | .bad => False
def SimO (fo : FO) (te : DE) : Prop := ∀ (c : Cz) (fs : Sl) (sl : Slots) (M : Mem) (ED : XD) (Q : DK), Rel c fs sl M → PoO c sl ED Q (fo fs) → te sl M ED Q

/-! ### names, constants, what is looked at -/
def isRef : D → Bool
  | .ref _ => true
  | _ => false
@[simp] theorem isRef_ref (a) : isRef (.ref a) = true := rfl
@[simp] theorem isRef_non : isRef .non = false := rfl
@[simp] theorem isRef_bl (a) : isRef (.bl a) = false := rfl
@[simp] theorem isRef_int (a) : isRef (.int a) = false := rfl
@[simp] theorem isRef_str (a) : isRef (.str a) = false := rfl
@[simp] theorem isRef_ty (a) : isRef (.ty a) = false := rfl
@[simp] theorem isRef_scr (a) : isRef (.scr a) = false := rfl
@[simp] theorem isRef_tup (a) : isRef (.tup a) = false := rfl
@[simp] theorem isRef_lst (a) : isRef (.lst a) = false := rfl
@[simp] theorem isRef_dic (a) : isRef (.dic a) = false := rfl
@[simp] theorem isRef_obj (a b) : isRef (.obj a b) = false := rfl
@[simp] theorem isRef_cls (a) : isRef (.cls a) = false := rfl
theorem vw_im {M : Mem} {d : D} {P : D → Prop} (h : isRef d = false) (q : P d) : vw M d P := by
  cases d <;> first | exact q | cases h
@[simp] def fVar (i : Nat) (s : Sl) : R Sv := match s[i]? with
  | some (some (.im d)) => .ok (.im d) s
  | _ => .bad
@[simp] def fC (d : D) (s : Sl) : R Sv := .ok (.im d) s
@[simp] def look (i : Nat) (s : Sl) : Option D := match s[i]? with
  | some (some (.im d)) => if isRef d then none else some d
  | some (some (.lst xs)) => some (.lst xs)
  | some (some (.dic k)) => some (.dic k)
  | some (some (.ins C fs)) => some (.obj C fs)
  | some (some (.lok _ k)) => some (.dic k)
  | _ => none
@[simp] def oV (i : Nat) (s : Sl) : R (Sl → Option D) := match s[i]? with
  | some (some _) => .ok (look i) s
  | _ => .bad
@[simp] def oIm (d : D) (_ : Sl) : Option D := if isRef d then none else some d
@[simp] def imK {α : Type} (w : Sv) (f : D → R α) : R α := match w with
  | .im d => f d
  | _ => .bad
@[simp] def oE (fe : FE) (s : Sl) : R (Sl → Option D) := (fe s).bind fun w s => imK w fun d => .ok (oIm d) s
@[simp] def opt {α : Type} (o : Option α) (s : Sl) : R α := match o with
  | some a => .ok a s
  | none => .bad
@[simp] def optI (o : Option D) (s : Sl) : R Sv := match o with
  | some a => .ok (.im a) s
  | none => .bad
theorem look_vw {c : Cz} {fs : Sl} {sl : Slots} {M : Mem} {i : Nat} {d x : D} {P : D → Prop} (r : Rel c fs sl M) (h : look i fs = some d) (hx : sl[i]? = some (some x)) (q : P d) : vw M x P := by
  obtain ⟨E, r⟩ := r
  unfold look at h
  split at h
  · rename_i d' e
    obtain ⟨y, h1, h2⟩ := r.slt i _ e
    rw [hx] at h1; cases h1
    cases h2.1
    split at h
    · cases h
    · rename_i nr
      cases h
      exact vw_im (by simpa using nr) q
  · rename_i xs e
    obtain ⟨y, h1, p, rfl, h2⟩ := r.slt i _ e
    rw [hx] at h1; cases h1
    cases h
    obtain ⟨k, hk⟩ := List.getElem?_of_mem (r.sub (i + 1) (p, .lst xs) (by rw [h2]; simp))
    exact ⟨k, _, hk, q⟩
  · rename_i xs e
    obtain ⟨y, h1, p, rfl, h2⟩ := r.slt i _ e
    rw [hx] at h1; cases h1
    cases h
    obtain ⟨k, hk⟩ := List.getElem?_of_mem (r.sub (i + 1) (p, .dic xs) (by rw [h2]; simp))
    exact ⟨k, _, hk, q⟩
  · rename_i C xs e
    obtain ⟨y, h1, p, dx, rfl, h2⟩ := r.slt i _ e
    rw [hx] at h1; cases h1
    cases h
    obtain ⟨k, hk⟩ := List.getElem?_of_mem (r.sub (i + 1) (p, .ins C dx xs) (by rw [h2]; simp))
    exact ⟨k, _, hk, q⟩
  · rename_i a xs e
    obtain ⟨y, h1, h3, p, od, ws, rfl, h2⟩ := r.slt i _ e
    rw [hx] at h1; cases h1
    cases h
    obtain ⟨k, hk⟩ := List.getElem?_of_mem (r.lks _ (c.lk.wf _ _ h2))
    exact ⟨k, _, hk, q⟩
  · cases h
section
variable {fa fb fc : FE} {oa ob oc : FO} {da db dc : DE} {ta tb : FT} {ua ub : DT} {as : FA} {dr : DA}
theorem s_var (i : Nat) : SimE (fVar i) (dVar i) := by
  intro c fs sl M ED Q r h
  obtain ⟨E, r⟩ := r
  unfold fVar at h
  split at h
  · rename_i d e
    obtain ⟨y, h1, h2⟩ := r.slt i _ e
    cases h2.1
    exact ⟨_, h1, h _ M ⟨_, r.swap _⟩⟩
  · exact h.elim
theorem s_c (d : D) : SimE (fC d) (dC d) := fun c fs sl M ED Q r h => h d M (r.im d)
theorem o_v (i : Nat) : SimO (oV i) (dVar i) := by
  intro c fs sl M ED Q r h
  unfold oV at h
  split at h
  · rename_i sv e
    obtain ⟨E, r'⟩ := r
    obtain ⟨y, h1, h2⟩ := r'.slt i _ e
    exact ⟨y, h1, h y M ⟨E, r'⟩ fun fs2 M2 d P r2 g q => look_vw r2 g h1 q⟩
  · exact h.elim
theorem o_e (h : SimE fa da) : SimO (oE fa) da := by
  intro c fs sl M ED Q r q
  refine h c fs sl M ED Q r ?_
  unfold oE at q
  cases e : fa fs with
  | ok w fs' =>
    rw [e] at q
    cases w with
    | im d =>
      intro d' M' rw'
      cases rw'.eq
      refine q _ M' rw'.rel fun fs2 M2 d2 P r2 g p => ?_
      unfold oIm at g
      split at g
      · cases g
      · rename_i nr
        cases g
        exact vw_im (by simpa using nr) p
    | _ => exact q.elim
  | ex cl f fs' => rw [e] at q; exact q
  | bad => rw [e] at q; exact q.elim
/-- an operator by values -/
def OpF (rd : D → D → Mem → DK → Prop) (f : D → D → Option D) : Prop := ∀ x y z M Q, f x y = some z → Q z M → rd x y M Q
@[simp] def fOp (f : D → D → Option D) (a b : FO) (s : Sl) : R Sv := (a s).bind fun g s => (b s).bind fun h s => match g s, h s with
  | some x, some y => optI (f x y) s
  | _, _ => .bad
theorem s_op {rd : D → D → Mem → DK → Prop} {f : D → D → Option D} (hf : OpF rd f) (ha : SimO oa da) (hb : SimO ob db) : SimE (fOp f oa ob) (dOp rd da db) := by
  intro c fs sl M ED Q r q
  refine ha c fs sl M ED _ r ?_
  unfold fOp at q
  cases e : oa fs with
  | ok g fs1 =>
    rw [e] at q
    intro x M1 r1 l1
    refine hb c fs1 sl M1 ED _ r1 ?_
    rw [ok_bind] at q
    cases e2 : ob fs1 with
    | ok h fs2 =>
      rw [e2, ok_bind] at q
      intro y M2 r2 l2
      split at q
      · rename_i x' y' gx hy
        refine l1 fs2 M2 x' _ r2 gx (l2 fs2 M2 y' _ r2 hy ?_)
        cases ef : f x' y' with
        | some z => rw [ef] at q; exact hf _ _ _ _ _ ef (q z M2 (r2.im z))
        | none => rw [ef] at q; exact q.elim
      · exact q.elim
    | ex cl f' fs' => rw [e2] at q; exact q
    | bad => rw [e2] at q; exact q.elim
  | ex cl f' fs' => rw [e] at q; exact q
  | bad => rw [e] at q; exact q.elim
end
end F

/-! F2: operators, tests, displays, built-in calls, fields. -/
namespace F
open PySem PySem.Spec L2 OD
section
variable {fa fb fc : FE} {oa ob oc : FO} {da db dc : DE} {ta tb : FT} {ua ub : DT} {as : FA} {dr : DA}
def UnF (rd : D → Mem → DK → Prop) (f : D → Option D) : Prop := ∀ x z M Q, f x = some z → Q z M → rd x M Q
@[simp] def fUn (f : D → Option D) (a : FO) (s : Sl) : R Sv := (a s).bind fun g s => match g s with
  | some x => optI (f x) s
  | none => .bad
theorem s_un {rd : D → Mem → DK → Prop} {f : D → Option D} (hf : UnF rd f) (ha : SimO oa da) : SimE (fUn f oa) (dUn rd da) := by
  intro c fs sl M ED Q r q
  refine ha c fs sl M ED _ r ?_
  unfold fUn at q
  cases e : oa fs with
  | ok g fs1 =>
    rw [e, ok_bind] at q
    intro x M1 r1 l1
    split at q
    · rename_i x' gx
      refine l1 fs1 M1 x' _ r1 gx ?_
      cases ef : f x' with
      | some z => rw [ef] at q; exact hf _ _ _ _ ef (q z M1 (r1.im z))
      | none => rw [ef] at q; exact q.elim
    · exact q.elim
  | ex cl f' fs' => rw [e] at q; exact q
  | bad => rw [e] at q; exact q.elim
@[simp] def fChain (f f' : D → D → Option D) (a b c : FO) (s : Sl) : R Sv := (a s).bind fun g s => (b s).bind fun h s => match g s, h s with
  | some x, some y => match f x y with
    | some (.bl true) => (c s).bind fun k s => match h s, k s with
      | some y, some z => optI (f' y z) s
      | _, _ => .bad
    | some (.bl false) => .ok (.im (.bl false)) s
    | _ => .bad
  | _, _ => .bad
/-! ### and, or, not, by values and as tests -/
@[simp] def boK {α : Type} (w : Sv) (f : Bool → R α) : R α := match w with
  | .im (.bl b) => f b
  | _ => .bad
@[simp] def fAndV (a b : FE) (s : Sl) : R Sv := (a s).bind fun w s => boK w fun c => if c = true then b s else .ok (.im (.bl false)) s
@[simp] def fOrV (a b : FE) (s : Sl) : R Sv := (a s).bind fun w s => boK w fun c => if c = true then .ok (.im (.bl true)) s else b s
@[simp] def fNotV (a : FE) (s : Sl) : R Sv := (a s).bind fun w s => boK w fun c => .ok (.im (.bl (!c))) s
@[simp] def fTest (a : FE) (s : Sl) : R Bool := (a s).bind fun w s => boK w fun c => .ok c s
@[simp] def fAnd (a b : FT) (s : Sl) : R Bool := (a s).bind fun c s => if c = true then b s else .ok false s
@[simp] def fOr (a b : FT) (s : Sl) : R Bool := (a s).bind fun c s => if c = true then .ok true s else b s
@[simp] def fNot (a : FT) (s : Sl) : R Bool := (a s).bind fun c s => .ok (!c) s
@[simp] def fIf (t : FT) (a b : FE) (s : Sl) : R Sv := (t s).bind fun c s => if c = true then a s else b s
theorem boK_inv {α : Type} {w : Sv} {f : Bool → R α} (h : boK w f ≠ .bad) : ∃ b, w = .im (.bl b) ∧ boK w f = f b := by
  unfold boK at h ⊢
  split at h
  · rename_i b; exact ⟨b, rfl, rfl⟩
  · exact absurd rfl h
/-- what a value is and what is wanted, in one step -/
theorem poE_cases {c : Cz} {sl : Slots} {ED : XD} {r : R Sv} {f : Sv → Sl → R Sv} {Q : DK} (q : PoE c sl ED Q (r.bind f)) {Q' : DK} (h : ∀ w fs, r = .ok w fs → PoE c sl ED Q (f w fs) → ∀ d M, RelW c fs sl M w d → Q' d M) : PoE c sl ED Q' r := by
  cases r with
  | ok w fs => exact h w fs rfl q
  | ex cl g fs => exact q
  | bad => exact q.elim
theorem poE_casesB {c : Cz} {sl : Slots} {ED : XD} {r : R Sv} {f : Sv → Sl → R Bool} {Q : Bool → Mem → Prop} (q : PoB c sl ED Q (r.bind f)) {Q' : DK} (h : ∀ w fs, r = .ok w fs → PoB c sl ED Q (f w fs) → ∀ d M, RelW c fs sl M w d → Q' d M) : PoE c sl ED Q' r := by
  cases r with
  | ok w fs => exact h w fs rfl q
  | ex cl g fs => exact q
  | bad => exact q.elim
theorem poB_casesB {c : Cz} {sl : Slots} {ED : XD} {r : R Bool} {f : Bool → Sl → R Bool} {Q : Bool → Mem → Prop} (q : PoB c sl ED Q (r.bind f)) {Q' : Bool → Mem → Prop} (h : ∀ w fs, r = .ok w fs → PoB c sl ED Q (f w fs) → ∀ M, Rel c fs sl M → Q' w M) : PoB c sl ED Q' r := by
  cases r with
  | ok w fs => exact h w fs rfl q
  | ex cl g fs => exact q
  | bad => exact q.elim
theorem poB_cases {c : Cz} {sl : Slots} {ED : XD} {r : R Bool} {f : Bool → Sl → R Sv} {Q : DK} (q : PoE c sl ED Q (r.bind f)) {Q' : Bool → Mem → Prop} (h : ∀ w fs, r = .ok w fs → PoE c sl ED Q (f w fs) → ∀ M, Rel c fs sl M → Q' w M) : PoB c sl ED Q' r := by
  cases r with
  | ok w fs => exact h w fs rfl q
  | ex cl g fs => exact q
  | bad => exact q.elim
theorem s_andV (ha : SimE fa da) (hb : SimE fb db) : SimE (fAndV fa fb) (dAndV da db) := by
  intro c fs sl M ED Q r q
  refine ha c fs sl M ED _ r (poE_cases q fun w fs1 e q d M1 rw => ?_)
  unfold boK at q
  split at q
  · rename_i b
    cases rw.eq
    refine ⟨b, rfl, ?_⟩
    cases b with
    | true => rw [if_pos rfl]; exact hb c fs1 sl M1 ED Q rw.rel q
    | false => rw [if_neg Bool.false_ne_true]; exact q _ M1 (rw.im _)
  · exact q.elim
theorem s_orV (ha : SimE fa da) (hb : SimE fb db) : SimE (fOrV fa fb) (dOrV da db) := by
  intro c fs sl M ED Q r q
  refine ha c fs sl M ED _ r (poE_cases q fun w fs1 e q d M1 rw => ?_)
  unfold boK at q
  split at q
  · rename_i b
    cases rw.eq
    refine ⟨b, rfl, ?_⟩
    cases b with
    | true => rw [if_pos rfl]; exact q _ M1 (rw.im _)
    | false => rw [if_neg Bool.false_ne_true]; exact hb c fs1 sl M1 ED Q rw.rel q
  · exact q.elim
theorem s_notV (ha : SimE fa da) : SimE (fNotV fa) (dNotV da) := by
  intro c fs sl M ED Q r q
  refine ha c fs sl M ED _ r (poE_cases q fun w fs1 e q d M1 rw => ?_)
  unfold boK at q
  split at q
  · rename_i b
    cases rw.eq
    exact ⟨b, rfl, q _ M1 (rw.im _)⟩
  · exact q.elim
theorem t_test (ha : SimE fa da) : SimT (fTest fa) (dTest da) := by
  intro c fs sl M ED Q r q
  refine ha c fs sl M ED _ r (poE_casesB q fun w fs1 e q d M1 rw => ?_)
  unfold boK at q
  split at q
  · rename_i b
    cases rw.eq
    exact ⟨b, rfl, q M1 rw.rel⟩
  · exact q.elim
/-- the truth of what is looked at -/
@[simp] def truF : D → Option Bool
  | .bl b => some b
  | _ => none
@[simp] def fTru (a : FO) (s : Sl) : R Bool := (a s).bind fun g s => match g s with
  | some x => opt (truF x) s
  | none => .bad
theorem t_tru (h0 : ∀ b M Q, Q b M → truD (.bl b) M Q) (ha : SimO oa da) : SimT (fTru oa) (dTru da) := by
  intro c fs sl M ED Q r q
  refine ha c fs sl M ED _ r ?_
  unfold fTru at q
  cases e : oa fs with
  | ok g fs1 =>
    rw [e, ok_bind] at q
    intro x M1 r1 l1
    split at q
    · rename_i x' gx
      refine l1 fs1 M1 x' _ r1 gx ?_
      cases x' with
      | bl b => exact h0 b M1 Q (q M1 r1)
      | _ => exact q.elim
    · exact q.elim
  | ex cl f' fs' => rw [e] at q; exact q
  | bad => rw [e] at q; exact q.elim
theorem t_and (ha : SimT ta ua) (hb : SimT tb ub) : SimT (fAnd ta tb) (dAnd ua ub) := by
  intro c fs sl M ED Q r q
  refine ha c fs sl M ED _ r (poB_casesB q fun b fs1 e q M1 r1 => ?_)
  cases b with
  | true => rw [if_pos rfl] at q ⊢; exact hb c fs1 sl M1 ED Q r1 q
  | false => rw [if_neg Bool.false_ne_true] at q ⊢; exact q M1 r1
theorem t_or (ha : SimT ta ua) (hb : SimT tb ub) : SimT (fOr ta tb) (dOr ua ub) := by
  intro c fs sl M ED Q r q
  refine ha c fs sl M ED _ r (poB_casesB q fun b fs1 e q M1 r1 => ?_)
  cases b with
  | true => rw [if_pos rfl] at q ⊢; exact q M1 r1
  | false => rw [if_neg Bool.false_ne_true] at q ⊢; exact hb c fs1 sl M1 ED Q r1 q
theorem t_not (ha : SimT ta ua) : SimT (fNot ta) (dNot ua) := by
  intro c fs sl M ED Q r q
  exact ha c fs sl M ED _ r (poB_casesB q fun b fs1 e q M1 r1 => q M1 r1)
theorem s_if (ht : SimT ta ua) (ha : SimE fa da) (hb : SimE fb db) : SimE (fIf ta fa fb) (dIf ua da db) := by
  intro c fs sl M ED Q r q
  refine ht c fs sl M ED _ r (poB_cases q fun b fs1 e q M1 r1 => ?_)
  cases b with
  | true => rw [if_pos rfl] at q ⊢; exact ha c fs1 sl M1 ED Q r1 q
  | false => rw [if_neg Bool.false_ne_true] at q ⊢; exact hb c fs1 sl M1 ED Q r1 q
/-! ### rows of data -/
@[simp] def imA {α : Type} (w : Sv) (f : D → R α) : R α := imK w f
@[simp] def fNil (s : Sl) : R (List D) := .ok [] s
@[simp] def fCons (a : FE) (r : FA) (s : Sl) : R (List D) := (a s).bind fun w s => imK w fun d => (r s).bind fun ds s => .ok (d :: ds) s
theorem a_nil : SimA fNil dNil := fun c fs sl M ED Q r q => q M r
theorem a_cons (ha : SimE fa da) (hr : SimA as dr) : SimA (fCons fa as) (dCons da dr) := by
  intro c fs sl M ED Q r q
  refine ha c fs sl M ED _ r ?_
  unfold fCons at q
  cases e : fa fs with
  | ok w fs1 =>
    rw [e, ok_bind] at q
    cases w with
    | im d =>
      intro d' M1 r1
      cases r1.eq
      refine hr c fs1 sl M1 ED _ r1.rel ?_
      cases e2 : as fs1 with
      | ok ds fs2 => rw [imK, e2] at q; exact q
      | ex cl f' fs' => rw [imK, e2] at q; exact q
      | bad => rw [imK, e2] at q; exact q.elim
    | _ => exact q.elim
  | ex cl f' fs' => rw [e] at q; exact q
  | bad => rw [e] at q; exact q.elim
theorem poA_cases {c : Cz} {sl : Slots} {ED : XD} {r : R (List D)} {f : List D → Sl → R Sv} {Q : DK} (q : PoE c sl ED Q (r.bind f)) {Q' : List D → Mem → Prop} (h : ∀ w fs, r = .ok w fs → PoE c sl ED Q (f w fs) → ∀ M, Rel c fs sl M → Q' w M) : PoA c sl ED Q' r := by
  cases r with
  | ok w fs => exact h w fs rfl q
  | ex cl g fs => exact q
  | bad => exact q.elim
@[simp] noncomputable def fTup (r : FA) (s : Sl) : R Sv := (r s).bind fun ds s => cif (ds.length ≤ 16777216) (.ok (.im (.tup ds)) s) (.bad)
@[simp] noncomputable def fLst (r : FA) (s : Sl) : R Sv := (r s).bind fun ds s => cif (ds.length ≤ 16777216) (.ok (.im (.lst ds)) s) (.bad)
@[simp] noncomputable def fLstN (r : FA) (s : Sl) : R Sv := (r s).bind fun ds s => cif (ds.length ≤ 16777216) (.ok (.lst ds) s) (.bad)
@[simp] def fDic0 (s : Sl) : R Sv := .ok (.im (.dic [])) s
@[simp] def fDicN (s : Sl) : R Sv := .ok (.dic []) s
theorem s_tup (hr : SimA as dr) : SimE (fTup as) (dTup dr) := by
  intro c fs sl M ED Q r q
  refine hr c fs sl M ED _ r (poA_cases q fun ds fs1 e q M1 r1 => ?_)
  by_cases hz : ds.length ≤ 16777216
  · rw [cif_pos hz] at q; exact ⟨hz, q _ M1 (r1.im _)⟩
  · rw [cif_neg hz] at q; exact q.elim
theorem s_lst (hr : SimA as dr) : SimE (fLst as) (dLst false dr) := by
  intro c fs sl M ED Q r q
  refine hr c fs sl M ED _ r (poA_cases q fun ds fs1 e q M1 r1 => ?_)
  by_cases hz : ds.length ≤ 16777216
  · rw [cif_pos hz] at q; exact ⟨hz, q _ M1 (r1.im _)⟩
  · rw [cif_neg hz] at q; exact q.elim
theorem pre_keys {M0 M : Mem} (h : Pre M0 M) : ∀ a, a ∈ keys M0 → a ∈ keys M := by
  intro a ha
  unfold Pre at h
  rw [← h] at ha
  obtain ⟨e, he, rfl⟩ := List.mem_map.mp ha
  exact List.mem_map.mpr ⟨e, List.mem_of_mem_take he, rfl⟩
theorem pre_append {M0 M E : Mem} (h : Pre M0 M) : Pre M0 (M ++ E) := by
  unfold Pre at *
  have hl : M0.length ≤ M.length := by
    have h1 := congrArg List.length h
    unfold keys at h1
    rw [List.length_map, List.length_map, List.length_take] at h1
    omega
  rw [List.take_append_of_le_length hl]
  exact h
/-- a new owned object in hand -/
def svN : N → Sv
  | .lst xs => .lst xs
  | .dic xs => .dic xs
  | .lok _ _ xs => .dic xs
  | .ins C _ fs => .ins C fs
def okN : N → Bool
  | .lok _ _ _ => false
  | _ => true
theorem ent_new {n : N} (h : okN n = true) (p : Addr) {lk : Lk} : Ent lk (svN n) (.ref p) [(p, n)] := by
  cases n with
  | lst xs => exact ⟨p, rfl, rfl⟩
  | dic xs => exact ⟨p, rfl, rfl⟩
  | lok _ _ _ => cases h
  | ins C dx fs => exact ⟨p, dx, rfl, rfl⟩
theorem Rel.add {c : Cz} {fs : Sl} {sl : Slots} {M : Mem} (r : Rel c fs sl M) {n : N} (hn : okN n = true) {p : Addr} (hp : p ∉ keys M) : RelW c fs sl (M ++ [(p, n)]) (svN n) (.ref p) := by
  obtain ⟨E, r⟩ := r
  have nk : ∀ i a, a ∈ keys (E i) → a ≠ p := fun i a ha z => by
    obtain ⟨e, he, rfl⟩ := List.mem_map.mp ha
    exact hp (z ▸ List.mem_map.mpr ⟨e, r.sub i e he, rfl⟩)
  have kp : keys [(p, n)] = [p] := rfl
  refine ⟨fun i => if i = 0 then [(p, n)] else E i, ?_, r.len, ent_new hn p, fun i sv e => ?_, fun i e he => ?_, fun i => ?_, fun i j a hij ha hb => ?_, fun i hi => ?_, fun i a hi ha => ?_, pre_append r.pre, fun e he => List.mem_append_left _ (r.lks e he), fun e he i hi => ?_⟩
  · rw [keys_append, kp]
    exact List.nodup_append.mpr ⟨r.nd, by simp, fun a ha b hb z => by simp at hb; exact hp (by rw [← hb, ← z]; exact ha)⟩
  · obtain ⟨d, h1, h2⟩ := r.slt i sv e
    exact ⟨d, h1, by rw [if_neg (Nat.succ_ne_zero i)]; exact h2⟩
  · by_cases z : i = 0
    · rw [if_pos z] at he; simp at he; rw [he]; simp
    · rw [if_neg z] at he; exact List.mem_append_left _ (r.sub i e he)
  · by_cases z : i = 0
    · rw [if_pos z, kp]; simp
    · rw [if_neg z]; exact r.ndE i
  · by_cases z : i = 0
    · rw [if_pos z, kp] at ha
      simp at ha
      rw [if_neg fun w => hij (by rw [z, w])] at hb
      exact nk j a hb ha
    · rw [if_neg z] at ha
      by_cases z2 : j = 0
      · rw [if_pos z2, kp] at hb
        simp at hb
        exact nk i a ha hb
      · rw [if_neg z2] at hb
        exact r.dis i j a hij ha hb
  · rw [if_neg (Nat.succ_ne_zero i)]; exact r.pin i hi
  · by_cases z : i = 0
    · rw [if_pos z, kp] at ha
      simp at ha
      rw [ha]
      exact fun w => hp (pre_keys r.pre p w)
    · rw [if_neg z] at ha; exact r.frs i a hi ha
  · by_cases z : i = 0
    · rw [if_pos z, kp] at hi
      simp at hi
      exact hp (hi ▸ List.mem_map.mpr ⟨e, r.lks e he, rfl⟩)
    · rw [if_neg z] at hi; exact r.lkd e he i hi
theorem al_new {c : Cz} {fs : Sl} {sl : Slots} {M : Mem} {n : N} {Q : DK} (hn : okN n = true) (r : Rel c fs sl M) (q : ∀ d M, RelW c fs sl M (svN n) d → Q d M) : al true n M Q := fun p hp => q _ _ (r.add hn hp)
theorem s_lstN (hr : SimA as dr) : SimE (fLstN as) (dLst true dr) := by
  intro c fs sl M ED Q r q
  refine hr c fs sl M ED _ r (poA_cases q fun ds fs1 e q M1 r1 => ?_)
  by_cases hz : ds.length ≤ 16777216
  · rw [cif_pos hz] at q; exact ⟨hz, al_new (n := .lst ds) rfl r1 q⟩
  · rw [cif_neg hz] at q; exact q.elim
theorem s_dic0 : SimE fDic0 (dDic0 false) := fun c fs sl M ED Q r q => q _ M (r.im _)
theorem s_dicN : SimE fDicN (dDic0 true) := fun c fs sl M ED Q r q => al_new (n := .dic []) rfl r q
/-! ### rows of things looked at -/
abbrev FL := Sl → R (List (Sl → Option D))
def PoL (c : Cz) (sl : Slots) (ED : XD) (Q : List D → Mem → Prop) : R (List (Sl → Option D)) → Prop
  | .ok gs fs => ∀ xs M, Rel c fs sl M → (∀ (fs : Sl) (M : Mem) (ws : List D) (P : List D → Prop), Rel c fs sl M → gs.mapM (fun g => g fs) = some ws → P ws → vws M xs P) → Q xs M
  | .ex cls f fs => ∀ M, Rel c fs sl M → ED cls f M
  | .bad => False
def SimL (fl : FL) (te : DA) : Prop := ∀ (c : Cz) (fs : Sl) (sl : Slots) (M : Mem) (ED : XD) (Q : List D → Mem → Prop), Rel c fs sl M → PoL c sl ED Q (fl fs) → te sl M ED Q
@[simp] def lNil (s : Sl) : R (List (Sl → Option D)) := .ok [] s
@[simp] def lCons (a : FO) (r : FL) (s : Sl) : R (List (Sl → Option D)) := (a s).bind fun g s => (r s).bind fun gs s => .ok (g :: gs) s
theorem l_nil : SimL lNil dNil := fun c fs sl M ED Q r q => q [] M r fun fs M ws P r e p => by
  cases e; exact p
theorem l_cons {fl : FL} (ha : SimO oa da) (hr : SimL fl dr) : SimL (lCons oa fl) (dCons da dr) := by
  intro c fs sl M ED Q r q
  refine ha c fs sl M ED _ r ?_
  unfold lCons at q
  cases e : oa fs with
  | ok g fs1 =>
    rw [e, ok_bind] at q
    intro x M1 r1 l1
    refine hr c fs1 sl M1 ED _ r1 ?_
    cases e2 : fl fs1 with
    | ok gs fs2 =>
      rw [e2, ok_bind] at q
      intro xs M2 r2 l2
      refine q (x :: xs) M2 r2 fun fs3 M3 ws P r3 e3 p => ?_
      rw [List.mapM_cons] at e3
      cases eg : g fs3 with
      | none => rw [eg] at e3; cases e3
      | some w =>
        rw [eg] at e3
        cases em : gs.mapM (fun g => g fs3) with
        | none => simp [em] at e3
        | some ws' =>
          simp [em] at e3
          subst e3
          exact l1 fs3 M3 w _ r3 eg (l2 fs3 M3 ws' _ r3 em p)
    | ex cl f' fs' => rw [e2] at q; exact q
    | bad => rw [e2] at q; exact q.elim
  | ex cl f' fs' => rw [e] at q; exact q
  | bad => rw [e] at q; exact q.elim
/-- a built-in call -/
def RcF (rd : RCD) (f : List D → Option D) : Prop := ∀ ws z M Q, f ws = some z → Q z M → rd ws M Q
def RcN (rd : RCD) (f : List D → Option N) : Prop := ∀ ws n M Q, f ws = some n → al true n M Q → okN n = true ∧ rd ws M Q
@[simp] def late (gs : List (Sl → Option D)) (s : Sl) : Option (List D) := gs.mapM fun g => g s
@[simp] def fCB (f : List D → Option D) (r : FL) (s : Sl) : R Sv := (r s).bind fun gs s => match late gs s with
  | some ws => optI (f ws) s
  | none => .bad
@[simp] def optN (o : Option N) (s : Sl) : R Sv := match o with
  | some n => .ok (svN n) s
  | none => .bad
@[simp] def fCBN (f : List D → Option N) (r : FL) (s : Sl) : R Sv := (r s).bind fun gs s => match late gs s with
  | some ws => optN (f ws) s
  | none => .bad
theorem s_callB {rd : RCD} {f : List D → Option D} {fl : FL} (hf : RcF rd f) (hr : SimL fl dr) : SimE (fCB f fl) (dCB rd dr) := by
  intro c fs sl M ED Q r q
  refine hr c fs sl M ED _ r ?_
  unfold fCB at q
  cases e : fl fs with
  | ok gs fs1 =>
    rw [e, ok_bind] at q
    intro xs M1 r1 l1
    split at q
    · rename_i ws ew
      refine l1 fs1 M1 ws _ r1 ew ?_
      cases ef : f ws with
      | some z => rw [ef] at q; exact hf _ _ _ _ ef (q z M1 (r1.im z))
      | none => rw [ef] at q; exact q.elim
    · exact q.elim
  | ex cl f' fs' => rw [e] at q; exact q
  | bad => rw [e] at q; exact q.elim
theorem s_callBN {rd : RCD} {f : List D → Option N} {fl : FL} (hf : ∀ ws n M Q, f ws = some n → al true n M Q → rd ws M Q) (hk : ∀ ws n, f ws = some n → okN n = true) (hr : SimL fl dr) : SimE (fCBN f fl) (dCB rd dr) := by
  intro c fs sl M ED Q r q
  refine hr c fs sl M ED _ r ?_
  unfold fCBN at q
  cases e : fl fs with
  | ok gs fs1 =>
    rw [e, ok_bind] at q
    intro xs M1 r1 l1
    split at q
    · rename_i ws ew
      refine l1 fs1 M1 ws _ r1 ew ?_
      cases ef : f ws with
      | some z => rw [ef] at q; exact hf _ _ _ _ ef (al_new (hk _ _ ef) r1 q)
      | none => rw [ef] at q; exact q.elim
    · exact q.elim
  | ex cl f' fs' => rw [e] at q; exact q
  | bad => rw [e] at q; exact q.elim
end
end F

/-! F3: slots changed; slices, fields; what is walked; statements, loops. -/
namespace F
open PySem PySem.Spec L2 OD
def owned : Sv → Bool
  | .im _ => false
  | .lok _ _ => false
  | _ => true
/-- slots told anew: each holds data, or what it held -/
theorem Rl.chg {c : Cz} {fs fs' : Sl} {sl sl' : Slots} {M : Mem} {w : Sv} {d : D} {E : Nat → Mem} (r : Rl c fs sl M w d E) (hl : fs'.length = sl'.length)
    (h : ∀ (i : Nat) (sv : Sv), fs'[i]? = some (some sv) → (∃ d, sv = Sv.im d ∧ sl'[i]? = some (some d)) ∨ (fs[i]? = some (some sv) ∧ sl'[i]? = sl[i]?)) : RelW c fs' sl' M w d := by
  have keep : ∀ i, (match i with | 0 => E 0 | i + 1 => (match fs'[i]? with | some (some sv) => if owned sv then E (i + 1) else [] | _ => [])) = [] ∨ (match i with | 0 => E 0 | i + 1 => (match fs'[i]? with | some (some sv) => if owned sv then E (i + 1) else [] | _ => [])) = E i := fun i => by
    cases i with
    | zero => exact .inr rfl
    | succ i =>
      dsimp only
      split
      · split
        · exact .inr rfl
        · exact .inl rfl
      · exact .inl rfl
  refine ⟨fun i => (match i with | 0 => E 0 | i + 1 => (match fs'[i]? with | some (some sv) => if owned sv then E (i + 1) else [] | _ => [])), r.nd, hl, r.tmp, fun i sv e => ?_, fun i e he => ?_, fun i => ?_, fun i j a n ha hb => ?_, fun i hi => ?_, fun i a hi ha => ?_, r.pre, r.lks, fun e he i hi => ?_⟩
  · dsimp only
    rw [e]
    rcases h i sv e with ⟨d, rfl, e2⟩ | ⟨e1, e2⟩
    · exact ⟨d, e2, rfl, rfl⟩
    · obtain ⟨d, h1, h2⟩ := r.slt i sv e1
      refine ⟨d, by rw [e2]; exact h1, ?_⟩
      cases sv with
      | im _ => exact ⟨h2.1, rfl⟩
      | lok _ _ => exact ⟨rfl, h2.2⟩
      | _ => exact h2
  · rcases keep i with k | k
    · rw [k] at he; cases he
    · rw [k] at he; exact r.sub i e he
  · rcases keep i with k | k
    · rw [k]; exact List.nodup_nil
    · rw [k]; exact r.ndE i
  · rcases keep i with k | k
    · rw [k] at ha; cases ha
    · rcases keep j with k2 | k2
      · rw [k2] at hb; cases hb
      · rw [k] at ha; rw [k2] at hb; exact r.dis i j a n ha hb
  · rcases keep (i + 1) with k | k
    · exact .inl k
    · rcases r.pin i hi with p | p
      · exact .inl (k.trans p)
      · exact .inr ((congrArg keys k).trans p)
  · rcases keep i with k | k
    · rw [k] at ha; cases ha
    · rw [k] at ha; exact r.frs i a hi ha
  · rcases keep i with k | k
    · rw [k] at hi; cases hi
    · rw [k] at hi; exact r.lkd e he i hi
theorem Rel.chg {c : Cz} {fs fs' : Sl} {sl sl' : Slots} {M : Mem} (r : Rel c fs sl M) (hl : fs'.length = sl'.length)
    (h : ∀ (i : Nat) (sv : Sv), fs'[i]? = some (some sv) → (∃ d, sv = Sv.im d ∧ sl'[i]? = some (some d)) ∨ (fs[i]? = some (some sv) ∧ sl'[i]? = sl[i]?)) : Rel c fs' sl' M := by
  obtain ⟨E, r⟩ := r
  exact r.chg hl h
theorem RelW.len {c : Cz} {fs : Sl} {sl : Slots} {M : Mem} {w : Sv} {d : D} (r : RelW c fs sl M w d) : fs.length = sl.length := by
  obtain ⟨E, r⟩ := r
  exact r.len
theorem Rel.len {c : Cz} {fs : Sl} {sl : Slots} {M : Mem} (r : Rel c fs sl M) : fs.length = sl.length := RelW.len r
/-- a slot gets data -/
theorem Rel.set {c : Cz} {fs : Sl} {sl : Slots} {M : Mem} (r : Rel c fs sl M) (i : Nat) (d : D) : Rel c (fs.set i (some (.im d))) (sl.set i (some d)) M := by
  refine r.chg (by rw [List.length_set, List.length_set, r.len]) fun j sv e => ?_
  by_cases z : i = j
  · subst z
    have hi : i < fs.length := by
      have := (List.getElem?_eq_some_iff.mp e).1
      rwa [List.length_set] at this
    rw [List.getElem?_set_self hi] at e
    cases e
    exact .inl ⟨d, rfl, List.getElem?_set_self (by rw [← r.len]; exact hi)⟩
  · rw [List.getElem?_set_ne z] at e
    exact .inr ⟨e, List.getElem?_set_ne z⟩
/-- a slot is emptied -/
theorem Rel.clr {c : Cz} {fs : Sl} {sl : Slots} {M : Mem} (r : Rel c fs sl M) (i : Nat) (o : Option D) : Rel c (fs.set i none) (sl.set i o) M := by
  refine r.chg (by rw [List.length_set, List.length_set, r.len]) fun j sv e => ?_
  by_cases z : i = j
  · subst z
    have hi : i < fs.length := by
      have := (List.getElem?_eq_some_iff.mp e).1
      rwa [List.length_set] at this
    rw [List.getElem?_set_self hi] at e
    cases e
  · rw [List.getElem?_set_ne z] at e
    exact .inr ⟨e, List.getElem?_set_ne z⟩
/-- a slot that is no argument's gets what is in hand -/
theorem RelW.put {c : Cz} {fs : Sl} {sl : Slots} {M : Mem} {w : Sv} {d : D} (r : RelW c fs sl M w d) (i : Nat) (hi : c.np ≤ i) : Rel c (fs.set i (some w)) (sl.set i (some d)) M := by
  obtain ⟨E, r⟩ := r
  have e0 : ∀ j, (if j = 0 then [] else if j = i + 1 then E 0 else E j) = [] ∨ ((j = i + 1) ∧ (if j = 0 then [] else if j = i + 1 then E 0 else E j) = E 0) ∨ (j ≠ 0 ∧ j ≠ i + 1 ∧ (if j = 0 then [] else if j = i + 1 then E 0 else E j) = E j) := fun j => by
    by_cases z : j = 0
    · exact .inl (by rw [if_pos z])
    · by_cases z2 : j = i + 1
      · exact .inr (.inl ⟨z2, by rw [if_neg z, if_pos z2]⟩)
      · exact .inr (.inr ⟨z, z2, by rw [if_neg z, if_neg z2]⟩)
  refine ⟨fun j => if j = 0 then [] else if j = i + 1 then E 0 else E j, r.nd, by rw [List.length_set, List.length_set, r.len], ⟨rfl, rfl⟩, fun j sv e => ?_, fun j e he => ?_, fun j => ?_, fun j k a n ha hb => ?_, fun j hj => ?_, fun j a hj ha => ?_, r.pre, r.lks, fun e he j hj => ?_⟩
  · rw [if_neg (Nat.succ_ne_zero j)]
    by_cases z : i = j
    · subst z
      have hl : i < fs.length := by
        have := (List.getElem?_eq_some_iff.mp e).1
        rwa [List.length_set] at this
      rw [List.getElem?_set_self hl] at e
      cases e
      exact ⟨d, List.getElem?_set_self (by rw [← r.len]; exact hl), by rw [if_pos rfl]; exact r.tmp⟩
    · rw [List.getElem?_set_ne z] at e
      obtain ⟨d', h1, h2⟩ := r.slt j sv e
      exact ⟨d', by rw [List.getElem?_set_ne z]; exact h1, by rw [if_neg (by omega)]; exact h2⟩
  · rcases e0 j with k | ⟨_, k⟩ | ⟨_, _, k⟩ <;> rw [k] at he
    · cases he
    · exact r.sub 0 e he
    · exact r.sub j e he
  · rcases e0 j with k | ⟨_, k⟩ | ⟨_, _, k⟩ <;> rw [k]
    · exact List.nodup_nil
    · exact r.ndE 0
    · exact r.ndE j
  · rcases e0 j with k1 | ⟨q1, k1⟩ | ⟨q1, q1', k1⟩ <;> rw [k1] at ha
    · cases ha
    · rcases e0 k with k2 | ⟨q2, k2⟩ | ⟨q2, q2', k2⟩ <;> rw [k2] at hb
      · cases hb
      · exact n (by rw [q1, q2])
      · exact r.dis 0 k a (Ne.symm q2) ha hb
    · rcases e0 k with k2 | ⟨q2, k2⟩ | ⟨q2, q2', k2⟩ <;> rw [k2] at hb
      · cases hb
      · exact r.dis j 0 a q1 ha hb
      · exact r.dis j k a n ha hb
  · rw [if_neg (Nat.succ_ne_zero j), if_neg (by omega)]
    exact r.pin j hj
  · rcases e0 j with k | ⟨q, k⟩ | ⟨q, q', k⟩ <;> rw [k] at ha
    · cases ha
    · exact r.frs 0 a (.inl rfl) ha
    · exact r.frs j a (hj.elim (fun z => absurd z q) .inr) ha
  · rcases e0 j with k | ⟨q, k⟩ | ⟨q, q', k⟩ <;> rw [k] at hj
    · cases hj
    · exact r.lkd e he 0 hj
    · exact r.lkd e he j hj

section
variable {fa fb fc : FE} {oa ob oc : FO} {da db dc : DE} {ta tb : FT} {ua ub : DT} {as : FA} {dr : DA}
/-! ### slices, fields -/
@[simp] noncomputable def slF : D → Option Int → Option Int → Option D
  | .lst xs, lo, hi => some (.lst (cutL xs lo hi))
  | .tup xs, lo, hi => some (.tup (cutL xs lo hi))
  | .str z, lo, hi => cif (z.length ≤ 16777216) (some (.str (cutS z lo hi))) (none)
  | .scr ns, lo, hi => some (.lst ((cutL ns lo hi).map .int))
  | _, _, _ => none
abbrev FP := Sl → R (Option Int)
def PoP (c : Cz) (sl : Slots) (ED : XD) (Q : Option Int → Mem → Prop) : R (Option Int) → Prop
  | .ok b fs => ∀ M, Rel c fs sl M → Q b M
  | .ex cls f fs => ∀ M, Rel c fs sl M → ED cls f M
  | .bad => False
def SimP (fp : FP) (d : DO) : Prop := ∀ (c : Cz) (fs : Sl) (sl : Slots) (M : Mem) (ED : XD) (Q : Option Int → Mem → Prop), Rel c fs sl M → PoP c sl ED Q (fp fs) → d sl M ED Q
@[simp] def pNo (s : Sl) : R (Option Int) := .ok none s
@[simp] def inK {α : Type} (w : Sv) (f : Int → R α) : R α := match w with
  | .im (.int i) => f i
  | _ => .bad
@[simp] def pSo (a : FE) (s : Sl) : R (Option Int) := (a s).bind fun w s => inK w fun i => .ok (some i) s
theorem p_no : SimP pNo dNoPart := fun c fs sl M ED Q r q => q M r
theorem p_so (ha : SimE fa da) : SimP (pSo fa) (dPart da) := by
  intro c fs sl M ED Q r q
  refine ha c fs sl M ED _ r ?_
  unfold pSo at q
  cases e : fa fs with
  | ok w fs1 =>
    rw [e, ok_bind] at q
    intro d M1 r1
    unfold inK at q
    cases w with
    | im x =>
      cases x with
      | int i =>
        cases r1.eq
        exact ⟨i, rfl, q M1 r1.rel⟩
      | _ => exact q.elim
    | _ => exact q.elim
  | ex cl f' fs' => rw [e] at q; exact q
  | bad => rw [e] at q; exact q.elim
theorem slF_ok {x : D} {lo hi : Option Int} {z : D} {M : Mem} {Q : DK} (h : slF x lo hi = some z) (q : Q z M) : slD false x lo hi M Q := by
  cases x with
  | lst xs => cases h; exact q
  | tup xs => cases h; exact q
  | scr xs => cases h; exact q
  | str z =>
    replace h : (cif (z.length ≤ 16777216) (some (D.str (cutS z lo hi))) (none)) = some _ := h
    by_cases hz : z.length ≤ 16777216
    · rw [cif_pos hz] at h; cases h; exact ⟨hz, q⟩
    · rw [cif_neg hz] at h; cases h
  | _ => cases h
theorem poP_cases {c : Cz} {sl : Slots} {ED : XD} {r : R (Option Int)} {f : Option Int → Sl → R Sv} {Q : DK} (q : PoE c sl ED Q (r.bind f)) {Q' : Option Int → Mem → Prop} (h : ∀ w fs, r = .ok w fs → PoE c sl ED Q (f w fs) → ∀ M, Rel c fs sl M → Q' w M) : PoP c sl ED Q' r := by
  cases r with
  | ok w fs => exact h w fs rfl q
  | ex cl g fs => exact q
  | bad => exact q.elim
theorem poO_cases {c : Cz} {sl : Slots} {ED : XD} {r : R (Sl → Option D)} {f : (Sl → Option D) → Sl → R Sv} {Q : DK} (q : PoE c sl ED Q (r.bind f)) {Q' : DK} (h : ∀ g fs, r = .ok g fs → PoE c sl ED Q (f g fs) → ∀ x M, Rel c fs sl M → Late c sl g x → Q' x M) : PoO c sl ED Q' r := by
  cases r with
  | ok w fs => exact h w fs rfl q
  | ex cl g fs => exact q
  | bad => exact q.elim
@[simp] noncomputable def fSl (a : FO) (lo hi : FP) (s : Sl) : R Sv := (a s).bind fun g s => (lo s).bind fun i s => (hi s).bind fun j s => match g s with
  | some x => optI (slF x i j) s
  | none => .bad
theorem s_sl {lo hi : FP} {dl dh : DO} (ha : SimO oa da) (hl : SimP lo dl) (hh : SimP hi dh) : SimE (fSl oa lo hi) (dSl false da dl dh) := by
  intro c fs sl M ED Q r q
  refine ha c fs sl M ED _ r (poO_cases q fun g fs1 e q x M1 r1 l1 => ?_)
  refine hl c fs1 sl M1 ED _ r1 (poP_cases q fun i fs2 e q M2 r2 => ?_)
  refine hh c fs2 sl M2 ED _ r2 (poP_cases q fun j fs3 e q M3 r3 => ?_)
  split at q
  · rename_i x' gx
    refine l1 fs3 M3 x' _ r3 gx ?_
    cases ef : slF x' i j with
    | some z => rw [ef] at q; exact slF_ok ef (q z M3 (r3.im z))
    | none => rw [ef] at q; exact q.elim
  · exact q.elim
@[simp] def fldF (P : Addr → Bool) (f : Str) : D → Option D
  | .obj C fs => if P C = true then fs.lookup f else none
  | _ => none
@[simp] def fFld (P : Addr → Bool) (f : Str) (a : FO) (s : Sl) : R Sv := (a s).bind fun g s => match g s with
  | some x => optI (fldF P f x) s
  | none => .bad
theorem s_fld {P : Addr → Bool} {P' : Addr → Prop} {f : Str} (hP : ∀ C, P C = true → P' C) (ha : SimO oa da) : SimE (fFld P f oa) (dFld P' f da) := by
  intro c fs sl M ED Q r q
  refine ha c fs sl M ED _ r (poO_cases q fun g fs1 e q x M1 r1 l1 => ?_)
  split at q
  · rename_i x' gx
    refine l1 fs1 M1 x' _ r1 gx ?_
    unfold fldF at q
    cases x' with
    | obj C fs =>
      dsimp only at q
      split at q
      · rename_i hC
        cases ef : fs.lookup f with
        | some z => rw [ef] at q; exact ⟨C, fs, z, rfl, hP C hC, ef, q z M1 (r1.im z)⟩
        | none => rw [ef] at q; exact q.elim
      · exact q.elim
    | _ => exact q.elim
  · exact q.elim
/-! ### what is walked -/
abbrev FI := Sl → R (List D)
structure ItOk (it : Itm) (xs : List D) : Prop where
  n : it.n = xs.length
  at_ : ∀ i (h : i < xs.length), it.at_ i = xs[i]
  gd : ∀ M, it.gd M
def PoI (c : Cz) (sl : Slots) (ED : XD) (Q : Itm → Mem → Prop) : R (List D) → Prop
  | .ok xs fs => ∀ it M, Rel c fs sl M → ItOk it xs → Q it M
  | .ex cls f fs => ∀ M, Rel c fs sl M → ED cls f M
  | .bad => False
def SimI (fi : FI) (di : DI) : Prop := ∀ (c : Cz) (fs : Sl) (sl : Slots) (M : Mem) (ED : XD) (Q : Itm → Mem → Prop), Rel c fs sl M → PoI c sl ED Q (fi fs) → di sl M ED Q
def strL (z : Str) : List D := z.cps.toList.map fun c => .str ⟨#[c]⟩
@[simp] def seqF : D → Option (List D)
  | .lst xs => some xs
  | .tup xs => some xs
  | .scr ns => some (ns.map .int)
  | .str z => some (strL z)
  | _ => none
theorem seqF_ok {d : D} {xs : List D} {M : Mem} {RD : Itm → Mem → Prop} (h : seqF d = some xs) (q : ∀ it, ItOk it xs → RD it M) : vwG M d fun w gd => seqI w gd M RD := by
  have sq : ∀ ys : List D, ItOk (itSeq ys fun _ => True) ys := fun ys => ⟨rfl, fun i h => by show (ys[i]?).getD .non = _; rw [List.getElem?_eq_getElem h]; rfl, fun _ => trivial⟩
  cases d with
  | lst ys => cases h; exact q _ (sq _)
  | tup ys => cases h; exact q _ (sq _)
  | scr ns => cases h; exact q _ (sq _)
  | str z =>
    cases h
    refine q _ ⟨by show _ = (strL z).length; unfold strL; rw [List.length_map, Array.length_toList]; rfl, fun i h => ?_, fun _ => trivial⟩
    unfold strL at h ⊢
    rw [List.length_map, Array.length_toList] at h
    rw [List.getElem_map, Array.getElem_toList]
    show D.str ⟨#[(z.cps[i]?).getD 0]⟩ = _
    rw [Array.getElem?_eq_getElem h]
    rfl
  | _ => cases h
theorem poE_casesI {c : Cz} {sl : Slots} {ED : XD} {r : R Sv} {f : Sv → Sl → R (List D)} {Q : Itm → Mem → Prop} (q : PoI c sl ED Q (r.bind f)) {Q' : DK} (h : ∀ w fs, r = .ok w fs → PoI c sl ED Q (f w fs) → ∀ d M, RelW c fs sl M w d → Q' d M) : PoE c sl ED Q' r := by
  cases r with
  | ok w fs => exact h w fs rfl q
  | ex cl g fs => exact q
  | bad => exact q.elim
theorem poA_casesI {c : Cz} {sl : Slots} {ED : XD} {r : R (List D)} {f : List D → Sl → R (List D)} {Q : Itm → Mem → Prop} (q : PoI c sl ED Q (r.bind f)) {Q' : List D → Mem → Prop} (h : ∀ w fs, r = .ok w fs → PoI c sl ED Q (f w fs) → ∀ M, Rel c fs sl M → Q' w M) : PoA c sl ED Q' r := by
  cases r with
  | ok w fs => exact h w fs rfl q
  | ex cl g fs => exact q
  | bad => exact q.elim
@[simp] def iSeq (a : FE) (s : Sl) : R (List D) := (a s).bind fun w s => imK w fun d => opt (seqF d) s
theorem i_seq (ha : SimE fa da) : SimI (iSeq fa) (diSeq da) := by
  intro c fs sl M ED Q r q
  refine ha c fs sl M ED _ r (poE_casesI q fun w fs1 e q d M1 r1 => ?_)
  cases w with
  | im x =>
    cases r1.eq
    replace q : PoI c sl ED Q (opt (seqF d) fs1) := q
    cases ef : seqF d with
    | some xs => rw [ef] at q; exact seqF_ok ef fun it ok => q it M1 r1.rel ok
    | none => rw [ef] at q; exact q.elim
  | _ => exact q.elim
def enumL (xs : List D) : List D := xs.mapIdx fun i x => .tup [.int (i : Nat), x]
@[simp] def enF : D → Option (List D)
  | .lst xs => some (enumL xs)
  | .tup xs => some (enumL xs)
  | _ => none
theorem itEnum_ok (ys : List D) : ItOk (itEnum ys fun _ => True) (enumL ys) := ⟨by show ys.length = _; unfold enumL; rw [List.length_mapIdx], fun i h => by
  unfold enumL at h ⊢
  rw [List.length_mapIdx] at h
  rw [List.getElem_mapIdx]
  show D.tup [.int (i : Nat), (ys[i]?).getD .non] = _
  rw [List.getElem?_eq_getElem h]
  rfl, fun _ => trivial⟩
@[simp] def iEnum (a : FA) (s : Sl) : R (List D) := (a s).bind fun ds s => match ds with
  | [d] => opt (enF d) s
  | _ => .bad
theorem i_enum (ha : SimA as dr) : SimI (iEnum as) (diEnum dr) := by
  intro c fs sl M ED Q r q
  refine ha c fs sl M ED _ r (poA_casesI q fun ds fs1 e q M1 r1 => ?_)
  split at q
  · rename_i d
    refine ⟨d, rfl, ?_⟩
    cases d with
    | lst ys => exact q _ M1 r1 (itEnum_ok ys)
    | tup ys => exact q _ M1 r1 (itEnum_ok ys)
    | _ => exact q.elim
  · exact q.elim
@[simp] def rgL (lo c : Int) (n : Nat) : List D := (List.range n).map fun (i : Nat) => D.int (lo + (i : Int) * c)
theorem itRange_ok (lo c : Int) (n : Nat) : ItOk (itRange lo c n) (rgL lo c n) := ⟨by show n = _; unfold rgL; rw [List.length_map, List.length_range], fun i h => by
  unfold rgL at h ⊢
  rw [List.getElem_map, List.getElem_range]
  rfl, fun _ => trivial⟩
abbrev rOk (i : Int) : Prop := -4611686018427387904 ≤ i ∧ i < 4611686018427387904
@[simp] noncomputable def rg1F : List D → Option (List D)
  | [.int j] => cif (rOk j) (some (rgL 0 1 j.toNat)) (none)
  | _ => none
@[simp] noncomputable def rg2F : List D → Option (List D)
  | [.int i, .int j] => cif (rOk i ∧ rOk j) (some (rgL i 1 (j - i).toNat)) (none)
  | _ => none
@[simp] noncomputable def rg3F : List D → Option (List D)
  | [.int i, .int j, .int c] => cif (c = -1 ∧ rOk i ∧ rOk j) (some (rgL i (-1) (i - j).toNat)) (
    cif (c ≠ 0 ∧ c.natAbs < 1073741824 ∧ Builtin.Range.small i j c = true ∧ 0 ≤ Builtin.Range.rangeSize i j c) (some (rgL i c (Builtin.Range.rangeSize i j c).toNat)) none)
  | _ => none
@[simp] def iRg (f : List D → Option (List D)) (a : FA) (s : Sl) : R (List D) := (a s).bind fun ds s => opt (f ds) s
theorem i_range1 (ha : SimA as dr) : SimI (iRg rg1F as) (diRange1 dr) := by
  intro c fs sl M ED Q r q
  refine ha c fs sl M ED _ r (poA_casesI q fun ds fs1 e q M1 r1 => ?_)
  unfold rg1F at q
  split at q
  · rename_i j
    by_cases h : rOk j
    · rw [cif_pos h] at q; exact ⟨j, rfl, by have := h.1; omega, by have := h.2; omega, q _ M1 r1 (itRange_ok 0 1 _)⟩
    · rw [cif_neg h] at q; exact q.elim
  · exact q.elim
theorem i_range2 (ha : SimA as dr) : SimI (iRg rg2F as) (diRange2 dr) := by
  intro c fs sl M ED Q r q
  refine ha c fs sl M ED _ r (poA_casesI q fun ds fs1 e q M1 r1 => ?_)
  unfold rg2F at q
  split at q
  · rename_i i j
    by_cases h : rOk i ∧ rOk j
    · rw [cif_pos h] at q; exact ⟨i, j, rfl, by obtain ⟨⟨h1, h2⟩, h3, h4⟩ := h; refine ⟨?_, ?_, ?_, ?_⟩ <;> omega, q _ M1 r1 (itRange_ok i 1 _)⟩
    · rw [cif_neg h] at q; exact q.elim
  · exact q.elim
theorem i_range3 (ha : SimA as dr) : SimI (iRg rg3F as) (diRange3 dr) := by
  intro c fs sl M ED Q r q
  refine ha c fs sl M ED _ r (poA_casesI q fun ds fs1 e q M1 r1 => ?_)
  unfold rg3F at q
  split at q
  · rename_i i j k
    by_cases h : k = -1 ∧ rOk i ∧ rOk j
    · rw [cif_pos h] at q
      obtain ⟨rfl, h1, h2⟩ := h
      exact ⟨i, j, -1, _, rfl, RgC.neg (by have := h1.1; omega) (by have := h1.2; omega) (by have := h2.1; omega) (by have := h2.2; omega), q _ M1 r1 (itRange_ok i (-1) _)⟩
    · rw [cif_neg h] at q
      by_cases h2 : k ≠ 0 ∧ k.natAbs < 1073741824 ∧ Builtin.Range.small i j k = true ∧ 0 ≤ Builtin.Range.rangeSize i j k
      · rw [cif_pos h2] at q
        exact ⟨i, j, k, _, rfl, ⟨h2.1, h2.2.1, h2.2.2.1, by omega⟩, q _ M1 r1 (itRange_ok i k _)⟩
      · rw [cif_neg h2] at q; exact q.elim
  · exact q.elim
end
end F

/-! F4: targets, statements, loops, comprehensions. -/
namespace F
open PySem PySem.Spec L2 OD
section
variable {fa fb fc : FE} {oa ob oc : FO} {da db dc : DE} {ta tb : FT} {ua ub : DT} {as : FA} {dr : DA} {fi : FI} {di : DI}
/-! ### targets: they write slots of vs alone -/
abbrev FG := D → Sl → Option Sl
abbrev FGs := List D → Sl → Option Sl
def SimG (vs : List Nat) (tg : FG) (dg : DG) : Prop := ∀ (c : Cz) (fs fs' : Sl) (sl : Slots) (M : Mem) (d : D) (Q : Slots → Mem → Prop), Rel c fs sl M → tg d fs = some fs' → (∀ sl' : Slots, (sl'.length = sl.length ∧ ∀ i : Nat, i ∉ vs → sl'[i]? = sl[i]?) → Rel c fs' sl' M → Q sl' M) → dg d sl M Q
def SimGs (vs : List Nat) (tg : FGs) (dg : DGs) : Prop := ∀ (c : Cz) (fs fs' : Sl) (sl : Slots) (M : Mem) (d : List D) (Q : Slots → Mem → Prop), Rel c fs sl M → tg d fs = some fs' → (∀ sl' : Slots, (sl'.length = sl.length ∧ ∀ i : Nat, i ∉ vs → sl'[i]? = sl[i]?) → Rel c fs' sl' M → Q sl' M) → dg d sl M Q
@[simp] def gName (i : Nat) (d : D) (s : Sl) : Option Sl := some (s.set i (some (.im d)))
@[simp] def gNil (ds : List D) (s : Sl) : Option Sl := match ds with
  | [] => some s
  | _ => none
@[simp] def gCons (g : FG) (r : FGs) (ds : List D) (s : Sl) : Option Sl := match ds with
  | d :: ds => (match g d s with | some s => r ds s | none => none)
  | [] => none
@[simp] def gTup (n : Nat) (r : FGs) (d : D) (s : Sl) : Option Sl := match d with
  | .tup ds => if ds.length = n then r ds s else none
  | _ => none
theorem g_name (i : Nat) : SimG [i] (gName i) (dName i) := fun c fs fs' sl M d Q r e q => by
  cases e
  exact q _ ⟨List.length_set, fun j hj => List.getElem?_set_ne (fun z => hj (by rw [z]; simp))⟩ (r.set i d)
theorem g_nil : SimGs [] gNil dgNil := fun c fs fs' sl M ds Q r e q => by
  cases ds with
  | nil => cases e; exact ⟨rfl, q sl ⟨rfl, fun _ _ => rfl⟩ r⟩
  | cons _ _ => cases e
theorem g_cons {vs ws : List Nat} {g : FG} {gs : FGs} {dg : DG} {dgs : DGs} (h1 : SimG vs g dg) (h2 : SimGs ws gs dgs) : SimGs (vs ++ ws) (gCons g gs) (dgCons dg dgs) := fun c fs fs' sl M ds Q r e q => by
  cases ds with
  | nil => cases e
  | cons d ds =>
    unfold gCons at e
    dsimp only at e
    cases e1 : g d fs with
    | none => rw [e1] at e; cases e
    | some fs1 =>
      rw [e1] at e
      refine ⟨d, ds, rfl, h1 c fs fs1 sl M d _ r e1 fun sl1 k1 r1 => h2 c fs1 fs' sl1 M ds _ r1 e fun sl2 k2 r2 => q sl2 ⟨k2.1.trans k1.1, fun i hi => ?_⟩ r2⟩
      rw [List.mem_append] at hi
      rw [k2.2 i fun z => hi (.inr z), k1.2 i fun z => hi (.inl z)]
theorem g_tup {n : Nat} {vs : List Nat} {gs : FGs} {dgs : DGs} (h : SimGs vs gs dgs) : SimG vs (gTup n gs) (dgTup n dgs) := fun c fs fs' sl M d Q r e q => by
  cases d with
  | tup ds =>
    replace e : (if ds.length = n then gs ds fs else none) = some fs' := e
    by_cases hn : ds.length = n
    · rw [if_pos hn] at e; exact ⟨hn, h c fs fs' sl M ds Q r e q⟩
    · rw [if_neg hn] at e; cases e
  | _ => cases e
/-! ### statements -/
def PoS (c : Cz) (Dd : DEnds) : O → Prop
  | .nx fs => ∀ sl M, Rel c fs sl M → Dd.nx sl M
  | .rt w fs => ∀ d sl M, RelW c fs sl M w d → Dd.rt d M
  | .bk fs => ∀ sl M, Rel c fs sl M → Dd.bk sl M
  | .ct fs => ∀ sl M, Rel c fs sl M → Dd.ct sl M
  | .ex cls f fs => ∀ sl M, Rel c fs sl M → Dd.ex sl cls f M
  | .bad => False
def SimS (np : Nat) (st : FS) (td : DS) : Prop := ∀ (c : Cz), c.np = np → ∀ (Dd : DEnds) (fs : Sl) (sl : Slots) (M : Mem), Rel c fs sl M → PoS c Dd (st fs) → td Dd sl M
variable {np : Nat} {s1 s2 : FS} {t1 t2 : DS}
theorem poE_st {c : Cz} {sl : Slots} {Dd : DEnds} {r : R Sv} {f : Sv → Sl → O} (q : PoS c Dd (r.thn f)) {Q' : DK} (h : ∀ w fs, r = .ok w fs → PoS c Dd (f w fs) → ∀ d M, RelW c fs sl M w d → Q' d M) : PoE c sl (Dd.ex sl) Q' r := by
  cases r with
  | ok w fs => exact h w fs rfl q
  | ex cl g fs => exact fun M r => q sl M r
  | bad => exact q.elim
theorem poB_st {c : Cz} {sl : Slots} {Dd : DEnds} {r : R Bool} {f : Bool → Sl → O} (q : PoS c Dd (r.thn f)) {Q' : Bool → Mem → Prop} (h : ∀ w fs, r = .ok w fs → PoS c Dd (f w fs) → ∀ M, Rel c fs sl M → Q' w M) : PoB c sl (Dd.ex sl) Q' r := by
  cases r with
  | ok w fs => exact h w fs rfl q
  | ex cl g fs => exact fun M r => q sl M r
  | bad => exact q.elim
theorem poA_st {c : Cz} {sl : Slots} {Dd : DEnds} {r : R (List D)} {f : List D → Sl → O} (q : PoS c Dd (r.thn f)) {Q' : List D → Mem → Prop} (h : ∀ w fs, r = .ok w fs → PoS c Dd (f w fs) → ∀ M, Rel c fs sl M → Q' w M) : PoA c sl (Dd.ex sl) Q' r := by
  cases r with
  | ok w fs => exact h w fs rfl q
  | ex cl g fs => exact fun M r => q sl M r
  | bad => exact q.elim
theorem poO_st {c : Cz} {sl : Slots} {Dd : DEnds} {r : R (Sl → Option D)} {f : (Sl → Option D) → Sl → O} (q : PoS c Dd (r.thn f)) {Q' : DK} (h : ∀ w fs, r = .ok w fs → PoS c Dd (f w fs) → ∀ x M, Rel c fs sl M → Late c sl w x → Q' x M) : PoO c sl (Dd.ex sl) Q' r := by
  cases r with
  | ok w fs => exact h w fs rfl q
  | ex cl g fs => exact fun M r => q sl M r
  | bad => exact q.elim
theorem poI_st {c : Cz} {sl : Slots} {Dd : DEnds} {r : R (List D)} {f : List D → Sl → O} (q : PoS c Dd (r.thn f)) {Q' : Itm → Mem → Prop} (h : ∀ w fs, r = .ok w fs → PoS c Dd (f w fs) → ∀ it M, Rel c fs sl M → ItOk it w → Q' it M) : PoI c sl (Dd.ex sl) Q' r := by
  cases r with
  | ok w fs => exact h w fs rfl q
  | ex cl g fs => exact fun M r => q sl M r
  | bad => exact q.elim
@[simp] def fNext (s : Sl) : O := .nx s
@[simp] def fSeq (a b : FS) (s : Sl) : O := (a s).then b
@[simp] def fBreak (s : Sl) : O := .bk s
@[simp] def fCont (s : Sl) : O := .ct s
@[simp] def fNever (s : Sl) : O := .bad
@[simp] def fDrop (a : FE) (s : Sl) : O := (a s).thn fun _ s => .nx s
@[simp] def fAsg (a : FE) (i : Nat) (s : Sl) : O := (a s).thn fun w s => .nx (s.set i (some w))
@[simp] def imS (w : Sv) (f : D → O) : O := match w with
  | .im d => f d
  | _ => .bad
@[simp] def fAsgG (a : FE) (g : FG) (s : Sl) : O := (a s).thn fun w s => imS w fun d => match g d s with
  | some s => .nx s
  | none => .bad
@[simp] def fRet (a : FE) (s : Sl) : O := (a s).thn fun w s => .rt w s
@[simp] def fRetN (s : Sl) : O := .rt (.im .non) s
@[simp] def fIfS (t : FT) (a b : FS) (s : Sl) : O := (t s).thn fun c s => if c = true then a s else b s
theorem s_next : SimS np fNext dNext := fun c hc Dd fs sl M r q => q sl M r
theorem s_break : SimS np fBreak dBreak := fun c hc Dd fs sl M r q => q sl M r
theorem s_cont : SimS np fCont dCont := fun c hc Dd fs sl M r q => q sl M r
theorem s_never : SimS np fNever dNever := fun c hc Dd fs sl M r q => q
theorem s_seq (h1 : SimS np s1 t1) (h2 : SimS np s2 t2) : SimS np (fSeq s1 s2) (dSeq t1 t2) := by
  intro c hc Dd fs sl M r q
  refine h1 c hc { Dd with nx := t2 Dd } fs sl M r ?_
  unfold fSeq at q
  cases e : s1 fs with
  | nx fs1 => rw [e] at q; exact fun sl1 M1 r1 => h2 c hc Dd fs1 sl1 M1 r1 q
  | rt w fs1 => rw [e] at q; exact q
  | bk fs1 => rw [e] at q; exact q
  | ct fs1 => rw [e] at q; exact q
  | ex cl g fs1 => rw [e] at q; exact q
  | bad => rw [e] at q; exact q
theorem s_drop (ha : SimE fa da) : SimS np (fDrop fa) (dDrop da) := by
  intro c hc Dd fs sl M r q
  exact ha c fs sl M _ _ r (poE_st q fun w fs1 e q d M1 r1 => q sl M1 r1.rel)
theorem s_asg {i : Nat} (ha : SimE fa da) (hi : np ≤ i) : SimS np (fAsg fa i) (dAsg da (dName i)) := by
  intro c hc Dd fs sl M r q
  exact ha c fs sl M _ _ r (poE_st q fun w fs1 e q d M1 r1 => q _ M1 (r1.put i (by rw [hc]; exact hi)))
theorem s_asgG {g : FG} {dg : DG} {vs : List Nat} (ha : SimE fa da) (hg : SimG vs g dg) : SimS np (fAsgG fa g) (dAsg da dg) := by
  intro c hc Dd fs sl M r q
  refine ha c fs sl M _ _ r (poE_st q fun w fs1 e q d M1 r1 => ?_)
  cases w with
  | im x =>
    obtain rfl := r1.eq
    unfold imS at q
    dsimp only at q
    cases eg : g d fs1 with
    | some fs2 => rw [eg] at q; exact hg c fs1 fs2 sl M1 d _ r1.rel eg fun sl' k r2 => q sl' M1 r2
    | none => rw [eg] at q; exact q.elim
  | _ => exact q.elim
theorem s_ret (ha : SimE fa da) : SimS np (fRet fa) (dRet false da) := by
  intro c hc Dd fs sl M r q
  exact ha c fs sl M _ _ r (poE_st q fun w fs1 e q d M1 r1 => q d sl M1 r1)
theorem s_retN : SimS np fRetN dRetN := fun c hc Dd fs sl M r q => q .non sl M r
theorem s_ifS (ht : SimT ta ua) (h1 : SimS np s1 t1) (h2 : SimS np s2 t2) : SimS np (fIfS ta s1 s2) (dIfS ua t1 t2) := by
  intro c hc Dd fs sl M r q
  refine ht c fs sl M _ _ r (poB_st q fun b fs1 e q M1 r1 => ?_)
  cases b with
  | true => rw [if_pos rfl]; exact h1 c hc Dd fs1 sl M1 r1 q
  | false => rw [if_neg Bool.false_ne_true]; exact h2 c hc Dd fs1 sl M1 r1 q
/-! ### for -/
def forL (tg : FG) (body : FS) : List D → Sl → O
  | [], s => .nx s
  | x :: xs, s => match tg x s with
    | some s => (match body s with
      | .nx s => forL tg body xs s
      | .ct s => forL tg body xs s
      | .bk s => .nx s
      | o => o)
    | none => .bad
@[simp] theorem forL_nil (tg : FG) (body : FS) (s : Sl) : forL tg body [] s = .nx s := rfl
@[simp] def fFor (it : FI) (tg : FG) (body : FS) (s : Sl) : O := (it s).thn fun xs s => forL tg body xs s
structure ItOk1 (c : Cz) (it : Itm) (xs : List D) : Prop where
  n : it.n = xs.length
  at_ : ∀ i (h : i < xs.length), it.at_ i = xs[i]
  gd : ∀ fs sl M, Rel c fs sl M → it.gd M
theorem ItOk.one {it : Itm} {xs : List D} (h : ItOk it xs) (c : Cz) : ItOk1 c it xs := ⟨h.n, h.at_, fun _ _ M _ => h.gd M⟩
theorem for_core {tg : FG} {dg : DG} {vs : List Nat} (hg : SimG vs tg dg) (hb : SimS np s1 t1) {c : Cz} (hc : c.np = np) {it : Itm} {xs : List D} (ok : ItOk1 c it xs) {Dd : DEnds} {fs1 : Sl} {sl : Slots} {M1 : Mem} (r1 : Rel c fs1 sl M1) (q : PoS c Dd (forL tg s1 xs fs1)) :
    ∃ W : Nat → Slots → Mem → Prop, W 0 sl M1 ∧ (∀ i sl M, i ≤ it.n → W i sl M → it.gd M) ∧
  (∀ i sl M, i < it.n → W i sl M → dg (it.at_ i) sl M fun sl2 M2 => t1 { Dd with nx := W (i + 1), ct := W (i + 1), bk := Dd.nx } sl2 M2) ∧ ∀ sl M, W it.n sl M → Dd.nx sl M := by
  refine ⟨fun j sl' M' => ∃ fs', Rel c fs' sl' M' ∧ PoS c Dd (forL tg s1 (xs.drop j) fs'), ⟨fs1, r1, q⟩, fun _ sl M _ w => ?_, fun j sl' M' hj w => ?_, fun sl' M' w => ?_⟩
  · obtain ⟨fs', r', _⟩ := w
    exact ok.gd fs' sl M r'
  · obtain ⟨fs', r', q'⟩ := w
    have hj' : j < xs.length := by rw [← ok.n]; exact hj
    rw [List.drop_eq_getElem_cons hj'] at q'
    unfold forL at q'
    rw [ok.at_ j hj']
    cases eg : tg xs[j] fs' with
    | none => rw [eg] at q'; exact q'.elim
    | some fs2 =>
      rw [eg] at q'
      dsimp only at q'
      refine hg c fs' fs2 sl' M' _ _ r' eg fun sl2 k r2 => ?_
      refine hb c hc _ fs2 sl2 M' r2 ?_
      cases eb : s1 fs2 with
      | nx fs3 => rw [eb] at q'; exact fun sl3 M3 r3 => ⟨fs3, r3, q'⟩
      | ct fs3 => rw [eb] at q'; exact fun sl3 M3 r3 => ⟨fs3, r3, q'⟩
      | bk fs3 => rw [eb] at q'; exact q'
      | rt w fs3 => rw [eb] at q'; exact q'
      | ex cl g fs3 => rw [eb] at q'; exact q'
      | bad => rw [eb] at q'; exact q'
  · obtain ⟨fs', r', q'⟩ := w
    rw [ok.n, List.drop_length] at q'
    exact q' sl' M' r'
theorem s_for {tg : FG} {dg : DG} {vs : List Nat} (hi : SimI fi di) (hg : SimG vs tg dg) (hb : SimS np s1 t1) : SimS np (fFor fi tg s1) (dFor di dg t1) := by
  intro c hc Dd fs sl M r q
  exact hi c fs sl M _ _ r (poI_st q fun xs fs1 e q it M1 r1 ok => for_core hg hb hc (ok.one c) r1 q)
/-! ### while -/
def whL (t : FT) (body : FS) : Nat → Sl → O
  | 0, _ => .bad
  | n + 1, s => (t s).thn fun c s => if c = true then (match body s with
      | .nx s => whL t body n s
      | .ct s => whL t body n s
      | .bk s => .nx s
      | o => o) else .nx s
open Classical in
noncomputable def fWhile (t : FT) (body : FS) (s : Sl) : O := if h : ∃ n, whL t body n s ≠ .bad then whL t body h.choose s else .bad
theorem thn_mono {α : Type} {r : R α} {f g : α → Sl → O} (h : ∀ a s, f a s ≠ .bad → g a s = f a s) : r.thn f ≠ .bad → r.thn g = r.thn f := by
  cases r with
  | ok a s => exact h a s
  | ex c g s => exact fun _ => rfl
  | bad => exact fun _ => rfl
theorem whL_mono {t : FT} {body : FS} : ∀ {n m : Nat} {s : Sl}, n ≤ m → whL t body n s ≠ .bad → whL t body m s = whL t body n s := by
  intro n
  induction n with
  | zero => intro m s _ h; exact absurd rfl h
  | succ n ih =>
    intro m s hm h
    obtain ⟨m, rfl⟩ : ∃ k, m = k + 1 := ⟨m - 1, by omega⟩
    unfold whL at h ⊢
    refine thn_mono (fun c s h => ?_) h
    cases c with
    | true =>
      rw [if_pos rfl] at h ⊢
      rw [if_pos rfl]
      cases eb : body s with
      | nx s' => rw [eb] at h; exact ih (by omega) h
      | ct s' => rw [eb] at h; exact ih (by omega) h
      | _ => rfl
    | false => rfl
theorem fWhile_of {t : FT} {body : FS} {n : Nat} {s : Sl} {o : O} (h : whL t body n s = o) (hb : o ≠ .bad) : fWhile t body s = o := by
  have he : ∃ n, whL t body n s ≠ .bad := ⟨n, by rw [h]; exact hb⟩
  unfold fWhile
  rw [dif_pos he]
  rcases Nat.le_total n he.choose with k | k
  · rw [whL_mono k (by rw [h]; exact hb), h]
  · rw [← h, whL_mono k he.choose_spec]
theorem fWhile_ex {t : FT} {body : FS} {s : Sl} (h : fWhile t body s ≠ .bad) : ∃ n, whL t body n s = fWhile t body s := by
  unfold fWhile at h ⊢
  by_cases he : ∃ n, whL t body n s ≠ .bad
  · rw [dif_pos he] at h ⊢; exact ⟨_, rfl⟩
  · rw [dif_neg he] at h; exact absurd rfl h
theorem s_while (ht : SimT ta ua) (hb : SimS np s1 t1) : SimS np (fWhile ta s1) (dWhile ua t1) := by
  intro c hc Dd fs sl M r q
  have hn : fWhile ta s1 fs ≠ .bad := fun z => by rw [z] at q; exact q
  obtain ⟨n, e⟩ := fWhile_ex hn
  rw [← e] at q
  refine ⟨fun m sl' M' => ∃ fs', Rel c fs' sl' M' ∧ PoS c Dd (whL ta s1 m fs'), ⟨n, fs, r, q⟩, fun m sl' M' w => ?_⟩
  obtain ⟨fs', r', q'⟩ := w
  cases m with
  | zero => exact q'.elim
  | succ m =>
    unfold whL at q'
    refine ht c fs' sl' M' _ _ r' (poB_st q' fun b fs1 e q M1 r1 => ?_)
    cases b with
    | true =>
      rw [if_pos rfl] at q
      rw [if_pos rfl]
      refine hb c hc _ fs1 sl' M1 r1 ?_
      cases eb : s1 fs1 with
      | nx fs3 => rw [eb] at q; exact fun sl3 M3 r3 => ⟨m, Nat.lt_succ_self _, fs3, r3, q⟩
      | ct fs3 => rw [eb] at q; exact fun sl3 M3 r3 => ⟨m, Nat.lt_succ_self _, fs3, r3, q⟩
      | bk fs3 => rw [eb] at q; exact q
      | rt w fs3 => rw [eb] at q; exact q
      | ex cl g fs3 => rw [eb] at q; exact q
      | bad => rw [eb] at q; exact q
    | false => rw [if_neg Bool.false_ne_true] at q ⊢; exact q sl' M1 r1
end
end F

/-! F5: owned objects changed; comprehensions. -/
namespace F
open PySem PySem.Spec L2 OD
/-! ### an owned object of a slot is written -/
theorem Rel.wr {c : Cz} {fs : Sl} {sl : Slots} {M : Mem} (r : Rel c fs sl M) {i : Nat} {sv sv' : Sv} (e : fs[i]? = some (some sv)) {p : Addr} {n n' : N} {k : Nat} (hk : M[k]? = some (p, n)) (hs : sl[i]? = some (some (.ref p)))
    (h2 : Ent c.lk sv' (.ref p) [(p, n')]) (hne : ∀ E, Ent c.lk sv (.ref p) E → keys E = [p]) : Rel c (fs.set i (some sv')) sl (M.set k (p, n')) := by
  obtain ⟨E, r⟩ := r
  obtain ⟨d, hd, ed⟩ := r.slt i sv e
  rw [hs] at hd; cases hd
  have kE : keys (E (i + 1)) = [p] := hne _ ed
  have hkey : keys (M.set k (p, n')) = keys M := keys_set hk
  have kk : keys [(p, n')] = [p] := rfl
  have key : ∀ j, keys (if j = i + 1 then [(p, n')] else E j) = keys (E j) := fun j => by
    by_cases z : j = i + 1
    · rw [if_pos z, z, kE, kk]
    · rw [if_neg z]
  refine ⟨fun j => if j = i + 1 then [(p, n')] else E j, by rw [hkey]; exact r.nd, by rw [List.length_set]; exact r.len, ?_, fun j sv2 e2 => ?_, fun j e2 he => ?_, fun j => by rw [key]; exact r.ndE j, fun j k2 a n ha hb => ?_, fun j hj => ?_, fun j a hj ha => ?_, ?_, fun e2 he => ?_, fun e2 he j => by rw [key]; exact r.lkd e2 he j⟩
  · rw [if_neg (by omega)]; exact r.tmp
  · by_cases z : i = j
    · subst z
      have hl : i < fs.length := (List.getElem?_eq_some_iff.mp e).1
      rw [List.getElem?_set_self hl] at e2
      cases e2
      exact ⟨_, hs, by rw [if_pos rfl]; exact h2⟩
    · rw [List.getElem?_set_ne z] at e2
      obtain ⟨d', g1, g2⟩ := r.slt j sv2 e2
      exact ⟨d', g1, by rw [if_neg (by omega)]; exact g2⟩
  · by_cases z : j = i + 1
    · rw [if_pos z] at he
      simp at he
      rw [he]
      exact List.mem_of_getElem? (List.getElem?_set_self (List.getElem?_eq_some_iff.mp hk).1)
    · rw [if_neg z] at he
      have hm := r.sub j e2 he
      have np : e2.1 ≠ p := fun w => r.dis j (i + 1) p z (List.mem_map.mpr ⟨e2, he, w⟩) (by rw [kE]; simp)
      obtain ⟨t, ht⟩ := List.getElem?_of_mem hm
      have hne : k ≠ t := fun w => by rw [← w, hk] at ht; cases ht; exact np rfl
      exact List.mem_of_getElem? (by rw [List.getElem?_set_ne hne]; exact ht)
  · rw [key] at ha hb; exact r.dis j k2 a n ha hb
  · rcases r.pin j hj with h | h
    · by_cases z : j + 1 = i + 1
      · exact absurd (by rw [← z, h]; rfl : keys (E (i + 1)) = []) (by rw [kE]; simp)
      · exact .inl (by rw [if_neg z]; exact h)
    · exact .inr (by rw [key]; exact h)
  · rw [key] at ha; exact r.frs j a hj ha
  · have hp := r.pre
    unfold Pre at hp ⊢
    rw [List.take_set]
    by_cases z : k < c.M0.length
    · have h3 : (M.take c.M0.length)[k]? = some (p, n) := by rw [List.getElem?_take_of_lt z]; exact hk
      rw [keys_set h3]; exact hp
    · rw [List.set_eq_of_length_le (by rw [List.length_take]; omega)]; exact hp
  · have np : e2.1 ≠ p := fun w => r.lkd e2 he (i + 1) (by rw [kE, w]; simp)
    obtain ⟨t, ht⟩ := List.getElem?_of_mem (r.lks e2 he)
    have hne : k ≠ t := fun w => by rw [← w, hk] at ht; cases ht; exact np rfl
    exact List.mem_of_getElem? (by rw [List.getElem?_set_ne hne]; exact ht)
/-- where the object of a slot stands -/
theorem Rel.lst {c : Cz} {fs : Sl} {sl : Slots} {M : Mem} (r : Rel c fs sl M) {i : Nat} {xs : List D} (e : fs[i]? = some (some (.lst xs))) : ∃ p k, sl[i]? = some (some (.ref p)) ∧ M[k]? = some (p, .lst xs) ∧
    ∀ ys, Rel c (fs.set i (some (.lst ys))) sl (M.set k (p, .lst ys)) := by
  have r0 := r
  obtain ⟨E, r⟩ := r
  obtain ⟨d, hd, p, rfl, ep⟩ := r.slt i _ e
  obtain ⟨k, hk⟩ := List.getElem?_of_mem (r.sub (i + 1) (p, .lst xs) (by rw [ep]; simp))
  refine ⟨p, k, hd, hk, fun ys => r0.wr e hk hd ⟨p, rfl, rfl⟩ fun E ⟨q, h1, h2⟩ => ?_⟩
  cases h1; rw [h2]; rfl
theorem Rel.dic {c : Cz} {fs : Sl} {sl : Slots} {M : Mem} (r : Rel c fs sl M) {i : Nat} {xs : List (Key × D)} (e : fs[i]? = some (some (.dic xs))) : ∃ p k, sl[i]? = some (some (.ref p)) ∧ M[k]? = some (p, .dic xs) ∧
    ∀ ys, Rel c (fs.set i (some (.dic ys))) sl (M.set k (p, .dic ys)) := by
  have r0 := r
  obtain ⟨E, r⟩ := r
  obtain ⟨d, hd, p, rfl, ep⟩ := r.slt i _ e
  obtain ⟨k, hk⟩ := List.getElem?_of_mem (r.sub (i + 1) (p, .dic xs) (by rw [ep]; simp))
  refine ⟨p, k, hd, hk, fun ys => r0.wr e hk hd ⟨p, rfl, rfl⟩ fun E ⟨q, h1, h2⟩ => ?_⟩
  cases h1; rw [h2]; rfl
theorem Rel.ins {c : Cz} {fs : Sl} {sl : Slots} {M : Mem} (r : Rel c fs sl M) {i : Nat} {C : Addr} {xs : List (Str × D)} (e : fs[i]? = some (some (.ins C xs))) : ∃ p k dx, sl[i]? = some (some (.ref p)) ∧ M[k]? = some (p, .ins C dx xs) ∧
    ∀ ys, Rel c (fs.set i (some (.ins C ys))) sl (M.set k (p, .ins C dx ys)) := by
  have r0 := r
  obtain ⟨E, r⟩ := r
  obtain ⟨d, hd, p, dx, rfl, ep⟩ := r.slt i _ e
  obtain ⟨k, hk⟩ := List.getElem?_of_mem (r.sub (i + 1) (p, .ins C dx xs) (by rw [ep]; simp))
  refine ⟨p, k, dx, hd, hk, fun ys => r0.wr (n := .ins C dx xs) e hk hd ⟨p, dx, rfl, rfl⟩ fun E ⟨q, dy, h1, h2⟩ => ?_⟩
  cases h1; rw [h2]; rfl
/-- an owned object of a slot that is no argument's is data from here on -/
theorem Rel.frz {c : Cz} {fs : Sl} {sl : Slots} {M : Mem} (r : Rel c fs sl M) {i : Nat} {sv : Sv} (e : fs[i]? = some (some sv)) {p : Addr} (hs : sl[i]? = some (some (.ref p))) {k : Nat} {n : N} (hk : M[k]? = some (p, n)) (hne : ∀ E, Ent c.lk sv (.ref p) E → keys E = [p]) (hi : c.np ≤ i) (d : D) :
    Rel c (fs.set i (some (.im d))) (sl.set i (some d)) (M.eraseIdx k) := by
  have r1 := (r.set i d)
  obtain ⟨E0, r0⟩ := r
  obtain ⟨d0, hd, ed⟩ := r0.slt i sv e
  rw [hs] at hd; cases hd
  have kE := hne _ ed
  have pM : p ∉ keys c.M0 := r0.frs (i + 1) p (.inr (by omega)) (by rw [kE]; simp)
  have hlen : c.M0.length ≤ k := by
    by_cases z : c.M0.length ≤ k
    · exact z
    · have hp := r0.pre
      unfold Pre at hp
      exfalso
      apply pM
      rw [← hp]
      exact List.mem_map.mpr ⟨(p, n), List.mem_of_getElem? (i := k) (by rw [List.getElem?_take_of_lt (by omega)]; exact hk), rfl⟩
  have e0 : ∀ j, (if j = i + 1 then [] else E0 j) = [] ∨ (j ≠ i + 1 ∧ (if j = i + 1 then [] else E0 j) = E0 j) := fun j => by
    by_cases z : j = i + 1
    · exact .inl (by rw [if_pos z])
    · exact .inr ⟨z, by rw [if_neg z]⟩
  refine ⟨fun j => if j = i + 1 then [] else E0 j, ?_, by rw [List.length_set, List.length_set, r0.len], ?_, fun j sv2 e2 => ?_, fun j e2 he => ?_, fun j => ?_, fun j k2 a n ha hb => ?_, fun j hj => ?_, fun j a hj ha => ?_, ?_, fun e2 he => ?_, fun e2 he j hj => ?_⟩
  · exact r0.nd.sublist ((List.eraseIdx_sublist M k).map _)
  · rw [if_neg (by omega)]; exact r0.tmp
  · by_cases z : i = j
    · subst z
      have hl : i < fs.length := (List.getElem?_eq_some_iff.mp e).1
      rw [List.getElem?_set_self hl] at e2
      cases e2
      exact ⟨d, List.getElem?_set_self (by rw [← r0.len]; exact hl), by rw [if_pos rfl]; exact ⟨rfl, rfl⟩⟩
    · rw [List.getElem?_set_ne z] at e2
      obtain ⟨d', g1, g2⟩ := r0.slt j sv2 e2
      exact ⟨d', by rw [List.getElem?_set_ne z]; exact g1, by rw [if_neg (by omega)]; exact g2⟩
  · rcases e0 j with z | ⟨z1, z⟩ <;> rw [z] at he
    · cases he
    · have hm := r0.sub j e2 he
      have np : e2.1 ≠ p := fun w => r0.dis j (i + 1) p z1 (List.mem_map.mpr ⟨e2, he, w⟩) (by rw [kE]; simp)
      obtain ⟨t, ht⟩ := List.getElem?_of_mem hm
      have hne : k ≠ t := fun w => by rw [← w, hk] at ht; cases ht; exact np rfl
      by_cases w : t < k
      · exact List.mem_of_getElem? (i := t) (by rw [List.getElem?_eraseIdx_of_lt w]; exact ht)
      · exact List.mem_of_getElem? (i := t - 1) (by rw [List.getElem?_eraseIdx_of_ge (by omega), Nat.sub_add_cancel (by omega)]; exact ht)
  · rcases e0 j with z | ⟨z1, z⟩ <;> rw [z]
    · exact List.nodup_nil
    · exact r0.ndE j
  · rcases e0 j with z | ⟨z1, z⟩ <;> rw [z] at ha
    · cases ha
    · rcases e0 k2 with y | ⟨y1, y⟩ <;> rw [y] at hb
      · cases hb
      · exact r0.dis j k2 a n ha hb
  · rcases e0 (j + 1) with z | ⟨z1, z⟩
    · exact .inl z
    · rw [z]; exact r0.pin j hj
  · rcases e0 j with z | ⟨z1, z⟩ <;> rw [z] at ha
    · cases ha
    · exact r0.frs j a hj ha
  · have hp := r0.pre
    unfold Pre at hp ⊢
    rw [List.eraseIdx_eq_take_drop_succ, List.take_append_of_le_length (by rw [List.length_take]; have := (List.getElem?_eq_some_iff.mp hk).1; omega), List.take_take, Nat.min_eq_left hlen]
    exact hp
  · have np : e2.1 ≠ p := fun w => r0.lkd e2 he (i + 1) (by rw [kE, w]; simp)
    obtain ⟨t, ht⟩ := List.getElem?_of_mem (r0.lks e2 he)
    have hne : k ≠ t := fun w => by rw [← w, hk] at ht; cases ht; exact np rfl
    by_cases w : t < k
    · exact List.mem_of_getElem? (i := t) (by rw [List.getElem?_eraseIdx_of_lt w]; exact ht)
    · exact List.mem_of_getElem? (i := t - 1) (by rw [List.getElem?_eraseIdx_of_ge (by omega), Nat.sub_add_cancel (by omega)]; exact ht)
  · rcases e0 j with z | ⟨z1, z⟩ <;> rw [z] at hj
    · cases hj
    · exact r0.lkd e2 he j hj
section
variable {fa fb fc : FE} {oa ob oc : FO} {da db dc : DE} {ta tb : FT} {ua ub : DT} {as : FA} {dr : DA} {fi : FI} {di : DI} {np : Nat} {s1 s2 : FS} {t1 t2 : DS}
def svD : Sv → Option D
  | .lst xs => some (.lst xs)
  | .dic xs => some (.dic xs)
  | .ins C fs => some (.obj C fs)
  | _ => none
/-- where the one object of a slot stands -/
theorem Rel.one {c : Cz} {fs : Sl} {sl : Slots} {M : Mem} (r : Rel c fs sl M) {i : Nat} {sv : Sv} {d : D} (e : fs[i]? = some (some sv)) (hd : svD sv = some d) : ∃ (p : Addr) (k : Nat) (n : N), sl[i]? = some (some (.ref p)) ∧ M[k]? = some (p, n) ∧ n.toD = d ∧ (∀ E, Ent c.lk sv (.ref p) E → keys E = [p]) := by
  cases sv with
  | lst xs => obtain ⟨p, k, h1, h2, _⟩ := r.lst e; cases hd; exact ⟨p, k, _, h1, h2, rfl, fun E ⟨q, g1, g2⟩ => by cases g1; rw [g2]; rfl⟩
  | dic xs => obtain ⟨p, k, h1, h2, _⟩ := r.dic e; cases hd; exact ⟨p, k, _, h1, h2, rfl, fun E ⟨q, g1, g2⟩ => by cases g1; rw [g2]; rfl⟩
  | ins C xs => obtain ⟨p, k, dx, h1, h2, _⟩ := r.ins e; cases hd; exact ⟨p, k, _, h1, h2, rfl, fun E ⟨q, dy, g1, g2⟩ => by cases g1; rw [g2]; rfl⟩
  | _ => cases hd
/-- return x, x owned: as data -/
@[simp] def fRetZ (i : Nat) (s : Sl) : O := match s[i]? with
  | some (some (.lst xs)) => .rt (.im (.lst xs)) (s.set i (some (.im .non)))
  | some (some (.dic xs)) => .rt (.im (.dic xs)) (s.set i (some (.im .non)))
  | some (some (.ins C xs)) => .rt (.im (.obj C xs)) (s.set i (some (.im .non)))
  | some (some (.im d)) => if isRef d then .bad else .rt (.im d) s
  | _ => .bad
theorem s_retZ {i : Nat} (hi : np ≤ i) : SimS np (fRetZ i) (dRet true (dVar i)) := by
  intro c hc Dd fs sl M r q
  have main : ∀ sv d, fs[i]? = some (some sv) → svD sv = some d → PoS c Dd (.rt (.im d) (fs.set i (some (.im .non)))) → dRet true (dVar i) Dd sl M := fun sv d e hd q => by
    obtain ⟨p, k, n, h1, h2, h3, h4⟩ := r.one e hd
    refine ⟨.ref p, h1, k, n, h2, ?_⟩
    rw [h3]
    exact q d _ _ ((r.frz e h1 h2 h4 (by rw [hc]; exact hi) .non).im d)
  unfold fRetZ at q
  split at q
  · rename_i xs e; exact main _ _ e rfl q
  · rename_i xs e; exact main _ _ e rfl q
  · rename_i C xs e; exact main _ _ e rfl q
  · rename_i d e
    obtain ⟨E, r'⟩ := r
    obtain ⟨y, h1, h2⟩ := r'.slt i _ e
    obtain rfl := h2.1
    split at q
    · exact q.elim
    · rename_i nr
      refine ⟨_, h1, ?_⟩
      have := q _ sl M (RelW.im ⟨E, r'⟩ _)
      cases y <;> first | exact this | exact absurd rfl nr
  · exact q.elim
/-- from here on slot i holds data -/
@[simp] def fFrz (i : Nat) (b : FS) (s : Sl) : O := match s[i]? with
  | some (some (.lst xs)) => b (s.set i (some (.im (.lst xs))))
  | some (some (.dic xs)) => b (s.set i (some (.im (.dic xs))))
  | some (some (.ins C xs)) => b (s.set i (some (.im (.obj C xs))))
  | _ => .bad
theorem s_frz {i : Nat} (hi : np ≤ i) (h : SimS np s1 t1) : SimS np (fFrz i s1) (dFrz i t1) := by
  intro c hc Dd fs sl M r q
  have main : ∀ sv d, fs[i]? = some (some sv) → svD sv = some d → PoS c Dd (s1 (fs.set i (some (.im d)))) → dFrz i t1 Dd sl M := fun sv d e hd q => by
    obtain ⟨p, k, n, h1, h2, h3, h4⟩ := r.one e hd
    refine ⟨p, k, n, h1, h2, ?_⟩
    rw [h3]
    exact h c hc Dd _ _ _ (r.frz e h1 h2 h4 (by rw [hc]; exact hi) d) q
  unfold fFrz at q
  split at q
  · rename_i xs e; exact main _ _ e rfl q
  · rename_i xs e; exact main _ _ e rfl q
  · rename_i C xs e; exact main _ _ e rfl q
  · exact q.elim
/-! ### lists changed -/
@[simp] noncomputable def fApp (i : Nat) (a : FE) (s : Sl) : R Sv := match s[i]? with
  | some (some (.lst _)) => (a s).bind fun w s => imK w fun d => (match s[i]? with
    | some (some (.lst xs)) => cif (xs.length < 16777216) (.ok (.im .non) (s.set i (some (.lst (xs ++ [d]))))) (.bad)
    | _ => .bad)
  | _ => .bad
theorem Rel.imI {c : Cz} {fs : Sl} {sl : Slots} {M : Mem} (r : Rel c fs sl M) (d : D) : RelW c fs sl M (.im d) d := RelW.im r d
theorem s_app {i : Nat} (ha : SimE fa da) : SimE (fApp i fa) (dApp (dVar i) da) := by
  intro c fs sl M ED Q r q
  unfold fApp at q
  split at q
  · rename_i xs0 e0
    obtain ⟨p, k0, h1, h2, _⟩ := r.lst e0
    refine ⟨_, h1, ⟨k0, _, h2⟩, ha c fs sl M ED _ r (poE_cases q fun w fs1 e q d M1 r1 => ?_)⟩
    unfold imK at q
    cases w with
    | im x =>
      obtain rfl := r1.eq
      dsimp only at q
      split at q
      · rename_i xs e1
        obtain ⟨p', k, g1, g2, g3⟩ := r1.rel.lst e1
        rw [h1] at g1; cases g1
        by_cases hz : xs.length < 16777216
        · rw [cif_pos hz] at q
          exact ⟨k, xs, g2, hz, q _ _ ((g3 _).imI _)⟩
        · rw [cif_neg hz] at q; exact q.elim
      · exact q.elim
    | _ => exact q.elim
  · exact q.elim
@[simp] def fPop (i : Nat) (s : Sl) : R Sv := match s[i]? with
  | some (some (.lst xs)) => (match xs[xs.length - 1]? with
    | some d => .ok (.im d) (s.set i (some (.lst xs.dropLast)))
    | none => .bad)
  | _ => .bad
theorem s_pop {i : Nat} : SimE (fPop i) (dMth popF (dVar i) dNil) := by
  intro c fs sl M ED Q r q
  unfold fPop at q
  split at q
  · rename_i xs e
    obtain ⟨p, k, h1, h2, h3⟩ := r.lst e
    refine ⟨_, h1, ⟨k, _, h2⟩, k, xs, h2, ?_⟩
    split at q
    · rename_i d ed
      exact ⟨d, ed, q d _ ((h3 _).imI d)⟩
    · exact q.elim
  · exact q.elim
@[simp] def mthF (f : List D → List D → Option (List D × D)) (i : Nat) (as : FL) (s : Sl) : R Sv := match s[i]? with
  | some (some (.lst _)) => (as s).bind fun gs s => (match s[i]?, late gs s with
    | some (some (.lst xs)), some ws => (match f xs ws with
      | some (ys, d) => .ok (.im d) (s.set i (some (.lst ys)))
      | none => .bad)
    | _, _ => .bad)
  | _ => .bad
theorem s_mth {i : Nat} {f : List D → List D → Option (List D × D)} {rf : List D → List D → (List D → Mem) → DK → Prop} {fl : FL} (hf : ∀ xs ws ys d wr Q, f xs ws = some (ys, d) → Q d (wr ys) → rf xs ws wr Q) (hr : SimL fl dr) : SimE (mthF f i fl) (dMth rf (dVar i) dr) := by
  intro c fs sl M ED Q r q
  unfold mthF at q
  split at q
  · rename_i xs0 e0
    obtain ⟨p, k0, h1, h2, _⟩ := r.lst e0
    refine ⟨_, h1, ⟨k0, _, h2⟩, hr c fs sl M ED _ r ?_⟩
    cases e : fl fs with
    | ok gs fs1 =>
      rw [e, ok_bind] at q
      intro xs M1 r1 l1
      split at q
      · rename_i ys ws e1 e2
        obtain ⟨p', k, g1, g2, g3⟩ := r1.lst e1
        rw [h1] at g1; cases g1
        refine ⟨k, ys, g2, l1 fs1 M1 ws _ r1 e2 ?_⟩
        split at q
        · rename_i zs d ef
          exact hf _ _ _ _ _ _ ef (q d _ ((g3 _).imI d))
        · exact q.elim
      · exact q.elim
    | ex cl f' fs' => rw [e] at q; exact q
    | bad => rw [e] at q; exact q.elim
  · exact q.elim
@[simp] noncomputable def extFF (xs : List D) : List D → Option (List D × D)
  | [.lst ys] => cif (xs.length + ys.length ≤ 16777216) (some (xs ++ ys, .non)) (none)
  | [.tup ys] => cif (xs.length + ys.length ≤ 16777216) (some (xs ++ ys, .non)) (none)
  | _ => none
theorem extFF_ok : ∀ xs ws ys d wr Q, extFF xs ws = some (ys, d) → Q d (wr ys) → extF xs ws wr Q := by
  intro xs ws ys d wr Q h q
  unfold extFF at h
  split at h
  · obtain ⟨hz, e⟩ := cif_inv h; cases e; exact ⟨hz, q⟩
  · obtain ⟨hz, e⟩ := cif_inv h; cases e; exact ⟨hz, q⟩
  · cases h
@[simp] noncomputable def popAtFF (xs : List D) : List D → Option (List D × D)
  | [.int i] => cif (-9223372036854775808 ≤ i ∧ i < 9223372036854775808) (match seqIndex? i xs.length with
    | some k => (match xs[k]? with | some d => some (xs.eraseIdx k, d) | none => none)
    | none => none) none
  | _ => none
theorem popAtFF_ok : ∀ xs ws ys d wr Q, popAtFF xs ws = some (ys, d) → Q d (wr ys) → popAtF xs ws wr Q := by
  intro xs ws ys d wr Q h q
  unfold popAtFF at h
  split at h
  · rename_i i
    by_cases hz : -9223372036854775808 ≤ i ∧ i < 9223372036854775808
    · rw [cif_pos hz] at h
      cases e : seqIndex? i xs.length with
      | none => rw [e] at h; cases h
      | some k =>
        rw [e] at h
        dsimp only at h
        cases e2 : xs[k]? with
        | none => rw [e2] at h; cases h
        | some x =>
          rw [e2] at h; cases h
          exact ⟨by have := hz.1; omega, by have := hz.2; omega, k, d, e, e2, q⟩
    · rw [cif_neg hz] at h; cases h
  · cases h
end
end F

/-! F6: defs and their calls. -/
namespace F
open PySem PySem.Spec L2 OD
/-- what a def comes to: a value, and what its arguments then are -/
inductive Rs where
  | ok (w : Sv) (outs : List Sv) | ex (c : Value) (f : Option (List (Str × D))) (outs : List Sv) | bad
abbrev FF := List Sv → Rs
/-- arguments, what they are in data, what they own -/
inductive Ents : List Sv → List D → List Mem → Prop
  | nil : Ents [] [] []
  | cons {sv : Sv} {d : D} {E : Mem} {svs : List Sv} {ds : List D} {Es : List Mem} : Ent lk0 sv d E → Ents svs ds Es → Ents (sv :: svs) (d :: ds) (E :: Es)
def fdF (x : Bool) (np : Nat) (ff : FF) : FD := fun ds M ED Q => ∃ args Es, args.length = np ∧ Ents args ds Es ∧ M = Es.flatten ∧ (match ff args with
  | .ok w outs => ∀ d Ew Es', Ents outs ds Es' → Es'.map keys = Es.map keys → Ent lk0 w d Ew → Q d (Es'.flatten ++ Ew)
  | .ex c f outs => x = true ∧ ∀ Es', Ents outs ds Es' → Es'.map keys = Es.map keys → ED c f Es'.flatten
  | .bad => False)
theorem Ents.len {args : List Sv} {ds : List D} {Es : List Mem} (h : Ents args ds Es) : ds.length = args.length ∧ Es.length = args.length := by
  induction h with
  | nil => exact ⟨rfl, rfl⟩
  | cons _ _ ih => exact ⟨by rw [List.length_cons, List.length_cons, ih.1], by rw [List.length_cons, List.length_cons, ih.2]⟩
theorem fdF_len {x : Bool} {np : Nat} {ff : FF} : ∀ ds M ED QD, fdF x np ff ds M ED QD → ds.length = np := fun ds M ED QD ⟨args, Es, h, e, _⟩ => by rw [e.len.1, h]
theorem Ents.get {args : List Sv} {ds : List D} {Es : List Mem} (h : Ents args ds Es) {i : Nat} {sv : Sv} (e : args[i]? = some sv) : ∃ d E, ds[i]? = some d ∧ Es[i]? = some E ∧ Ent lk0 sv d E := by
  induction h generalizing i with
  | nil => cases e
  | cons a b ih =>
    cases i with
    | zero => cases e; exact ⟨_, _, rfl, rfl, a⟩
    | succ i => exact ih e
theorem keys_flatten : ∀ Es : List Mem, keys Es.flatten = (Es.map keys).flatten := by
  intro Es
  induction Es with
  | nil => rfl
  | cons E Es ih => rw [List.flatten_cons, keys_append, ih, List.map_cons, List.flatten_cons]
/-! ### a def is run -/
def outOf (args : List Sv) (s : Sl) : Option (List Sv) := match args, s with
  | [], _ => some []
  | a :: as, o :: s => (match outOf as s with
    | some os => if owned a = true then (match o with | some sv => if owned sv = true then some (sv :: os) else none | none => none) else some (a :: os)
    | none => none)
  | _ :: _, [] => none
def isPot : Sv → Bool
  | .pot _ => true
  | _ => false
def rsOf (args : List Sv) (o : O) : Rs := match o with
  | .nx s => (match outOf args s with | some os => .ok (.im .non) os | none => .bad)
  | .rt w s => if isPot w = true then .bad else (match outOf args s with | some os => .ok w os | none => .bad)
  | .ex c f s => (match outOf args s with | some os => .ex c f os | none => .bad)
  | _ => .bad
def fDef (np nl : Nat) (body : FS) : FF := fun args => if args.length = np then rsOf args (body (args.map some ++ List.replicate nl none)) else .bad
theorem ent_owned {lk : Lk} {sv : Sv} {d : D} {E : Mem} (h : Ent lk sv d E) (o : owned sv = true) : E ≠ [] := by
  cases sv with
  | im _ => cases o
  | lst _ => obtain ⟨p, _, e⟩ := h; rw [e]; simp
  | dic _ => obtain ⟨p, _, e⟩ := h; rw [e]; simp
  | ins _ _ => obtain ⟨p, _, _, e⟩ := h; rw [e]; simp
  | pot _ => obtain ⟨p, g, s, _, e, _⟩ := h; rw [e]; simp [Once.potM]
  | lok _ _ => cases o
theorem ent_im {lk : Lk} {sv : Sv} {d : D} {E : Mem} (h : Ent lk sv d E) (o : owned sv = false) : E = [] := by
  cases sv with
  | im _ => exact h.2
  | lok _ _ => exact h.1
  | _ => cases o
theorem ent_last {lk : Lk} {sv : Sv} {d : D} {E : Mem} (h : Ent lk sv d E) (o : owned sv = true) : ∃ p, d = .ref p ∧ (keys E).getLast? = some p := by
  cases sv with
  | im _ => cases o
  | lst _ => obtain ⟨p, e1, e⟩ := h; exact ⟨p, e1, by rw [e]; rfl⟩
  | dic _ => obtain ⟨p, e1, e⟩ := h; exact ⟨p, e1, by rw [e]; rfl⟩
  | ins _ _ => obtain ⟨p, _, e1, e⟩ := h; exact ⟨p, e1, by rw [e]; rfl⟩
  | pot _ => obtain ⟨p, g, s, e1, e, _⟩ := h; exact ⟨p, e1, by rw [e]; rfl⟩
  | lok _ _ => cases o
theorem ent_det {sv sv' : Sv} {d d' : D} {E E' : Mem} (h : Ent lk0 sv d E) (h' : Ent lk0 sv' d' E') (o : owned sv = true) (o' : owned sv' = true) (k : keys E = keys E') : d = d' := by
  obtain ⟨p, e1, e2⟩ := ent_last h o
  obtain ⟨q, f1, f2⟩ := ent_last h' o'
  rw [k, f2] at e2
  cases e2
  rw [e1, f1]
theorem ent_nd {lk : Lk} {sv : Sv} {d : D} {E : Mem} (h : Ent lk sv d E) : (keys E).Nodup := by
  cases sv with
  | im _ => rw [h.2]; exact List.nodup_nil
  | lst _ => obtain ⟨p, e1, e⟩ := h; rw [e]; simp [keys]
  | dic _ => obtain ⟨p, e1, e⟩ := h; rw [e]; simp [keys]
  | ins _ _ => obtain ⟨p, _, e1, e⟩ := h; rw [e]; simp [keys]
  | pot _ => obtain ⟨p, g, s, e1, e, n⟩ := h; exact n
  | lok _ _ => rw [h.1]; exact List.nodup_nil
/-- what the arguments are behind a run -/
theorem out_ok {fs : Sl} {sl : Slots} {E : Nat → Mem} {ks : Nat → List Addr} (slt : ∀ i sv, fs[i]? = some (some sv) → ∃ d, sl[i]? = some (some d) ∧ Ent lk0 sv d (E (i + 1))) :
    ∀ {args : List Sv} {ds : List D} {Es : List Mem} {outs : List Sv} (k : Nat), Ents args ds Es → outOf args (fs.drop k) = some outs → (∀ i, i < args.length → E (k + i + 1) = [] ∨ keys (E (k + i + 1)) = keys (Es.getD i [])) →
      ∃ Es', Ents outs ds Es' ∧ Es'.map keys = Es.map keys ∧ ∀ e ∈ Es'.flatten, ∃ i, e ∈ E (i + 1) := by
  intro args
  induction args with
  | nil =>
    intro ds Es outs k h e hk
    cases h
    unfold outOf at e
    cases e
    exact ⟨[], .nil, rfl, fun e h => by cases h⟩
  | cons a as ih =>
    intro ds Es outs k h e hk
    cases h with
    | cons h1 h2 =>
      rename_i d E1 ds Es
      cases hd : fs.drop k with
      | nil => rw [hd] at e; unfold outOf at e; cases e
      | cons o s =>
        have hd2 : s = fs.drop (k + 1) := by
          have := congrArg List.tail hd
          rw [List.tail_drop] at this
          exact this.symm
        have ho : fs[k]? = some o := by
          have := congrArg (fun l => l[0]?) hd
          simpa using this
        rw [hd] at e
        unfold outOf at e
        cases e1 : outOf as s with
        | none => rw [e1] at e; cases e
        | some os =>
          rw [e1] at e
          dsimp only at e
          rw [hd2] at e1
          obtain ⟨Es', g1, g2, g3⟩ := ih (k + 1) h2 e1 fun i hi => by
            have := hk (i + 1) (by simp; omega)
            rw [show k + (i + 1) + 1 = k + 1 + i + 1 by omega] at this
            exact this
          by_cases oa : owned a = true
          · rw [if_pos oa] at e
            cases o with
            | none => cases e
            | some sv =>
              dsimp only at e
              by_cases ov : owned sv = true
              · rw [if_pos ov] at e
                cases e
                obtain ⟨d', q1, q2⟩ := slt k sv ho
                have kk : keys (E (k + 1)) = keys E1 := by
                  rcases hk 0 (by simp) with z | z
                  · exact absurd z (ent_owned q2 ov)
                  · exact z
                have dd := ent_det q2 h1 ov oa kk
                subst dd
                refine ⟨E (k + 1) :: Es', .cons q2 g1, by rw [List.map_cons, List.map_cons, g2, kk], fun e he => ?_⟩
                rw [List.flatten_cons] at he
                rcases List.mem_append.mp he with he | he
                · exact ⟨k, he⟩
                · exact g3 e he
              · rw [if_neg ov] at e; cases e
          · rw [if_neg oa] at e
            cases e
            have e0 := ent_im h1 (by simpa using oa)
            refine ⟨E1 :: Es', .cons h1 g1, by rw [List.map_cons, List.map_cons, g2], fun e he => ?_⟩
            rw [e0] at he
            exact g3 e (by simpa using he)
/-- one list within another one of unlike keys, with the keys of its front -/
theorem take_eq {A M : Mem} (nd : (keys M).Nodup) (hk : keys (M.take A.length) = keys A) (hs : ∀ e ∈ A, e ∈ M) : M.take A.length = A := by
  refine List.ext_getElem? fun i => ?_
  have hl : (M.take A.length).length = A.length := by
    have := congrArg List.length hk
    unfold keys at this
    rwa [List.length_map, List.length_map] at this
  by_cases hi : i < A.length
  · have h1 : A[i]? = some A[i] := List.getElem?_eq_getElem hi
    have h2 : (M.take A.length)[i]? = some (M.take A.length)[i] := List.getElem?_eq_getElem (by omega)
    have h3 : (keys (M.take A.length))[i]? = some (M.take A.length)[i].1 := by unfold keys; rw [List.getElem?_map, h2]; rfl
    have h4 : (keys A)[i]? = some A[i].1 := by unfold keys; rw [List.getElem?_map, h1]; rfl
    rw [hk, h4] at h3
    have h5 : A[i].1 = (M.take A.length)[i].1 := Option.some.inj h3
    obtain ⟨t, ht⟩ := List.getElem?_of_mem (hs _ (List.getElem_mem hi))
    have h6 : M[i]? = some (M.take A.length)[i] := by rw [List.getElem?_take_of_lt hi] at h2; exact h2
    have h7 := key_ix nd ht h6 h5
    subst h7
    rw [h6] at ht
    rw [h1, h2]
    exact ht
  · rw [List.getElem?_eq_none (by omega), List.getElem?_eq_none (by omega)]
theorem sub_one {M : Mem} {E : Mem} {n : Nat} (h1 : E.length ≤ 1) (h : ∀ e ∈ E, e ∈ M.drop n) : E.Sublist (M.drop n) := by
  cases E with
  | nil => exact List.nil_sublist _
  | cons e r =>
    cases r with
    | nil => exact List.singleton_sublist.mpr (h e (by simp))
    | cons _ _ => simp at h1
theorem ent_one {lk : Lk} {w : Sv} {d : D} {E : Mem} (h : Ent lk w d E) (hp : isPot w = false) : E.length ≤ 1 := by
  cases w with
  | im _ => rw [h.2]; simp
  | lst _ => obtain ⟨p, _, e⟩ := h; rw [e]; simp
  | dic _ => obtain ⟨p, _, e⟩ := h; rw [e]; simp
  | ins _ _ => obtain ⟨p, _, _, e⟩ := h; rw [e]; simp
  | pot _ => cases hp
  | lok _ _ => rw [h.1]; simp
/-- the memory at the end of a def -/
theorem end_ok {args : List Sv} {ds : List D} {Es : List Mem} (ha : Ents args ds Es) {fs : Sl} {sl : Slots} {M : Mem} {w : Sv} {d : D} {outs : List Sv}
    (r : RelW ⟨args.length, Es.flatten, fun i => keys (Es.getD i []), lk0⟩ fs sl M w d) (ho : outOf args fs = some outs) (hp : isPot w = false) :
    ∃ Ew Es', Ents outs ds Es' ∧ Es'.map keys = Es.map keys ∧ Ent lk0 w d Ew ∧ (Es'.flatten ++ Ew).Sublist M ∧ Pre Es.flatten (Es'.flatten ++ Ew) := by
  obtain ⟨E, r⟩ := r
  obtain ⟨Es', g1, g2, g3⟩ := out_ok (ks := fun i => keys (Es.getD i [])) (k := 0) r.slt ha (by simpa using ho) fun i hi => by
    rw [Nat.zero_add]; exact r.pin i hi
  have kf : keys Es'.flatten = keys Es.flatten := by rw [keys_flatten, keys_flatten, g2]
  have kl : Es'.flatten.length = Es.flatten.length := by
    have := congrArg List.length kf
    unfold keys at this
    rwa [List.length_map, List.length_map] at this
  have tk : M.take Es'.flatten.length = Es'.flatten := take_eq r.nd (by rw [kl, kf]; exact r.pre) fun e he => by
    obtain ⟨i, hi⟩ := g3 e he
    exact r.sub _ e hi
  refine ⟨E 0, Es', g1, g2, r.tmp, ?_, ?_⟩
  · have h2 : M = Es'.flatten ++ M.drop Es'.flatten.length := by
      conv => lhs; rw [← List.take_append_drop Es'.flatten.length M, tk]
    rw [h2]
    refine List.Sublist.append (List.Sublist.refl _) (sub_one (ent_one r.tmp hp) fun e he => ?_)
    have hm := r.sub 0 e he
    rw [h2] at hm
    rcases List.mem_append.mp hm with hm | hm
    · refine absurd ?_ (r.frs 0 e.1 (.inl rfl) (List.mem_map.mpr ⟨e, he, rfl⟩))
      show e.1 ∈ keys Es.flatten
      rw [← kf]
      exact List.mem_map.mpr ⟨e, hm, rfl⟩
    · exact hm
  · unfold Pre
    rw [← kl, List.take_append_of_le_length (Nat.le_refl _), List.take_length, kf]
theorem start_rel {args : List Sv} {ds : List D} {Es : List Mem} (h : Ents args ds Es) (nd : (keys Es.flatten).Nodup) {N : List Str} {nl : Nat} (hn : N.length = args.length + nl) :
    Rel ⟨args.length, Es.flatten, fun i => keys (Es.getD i []), lk0⟩ (args.map some ++ List.replicate nl none) (startD N ds) Es.flatten := by
  have hl := h.len
  have ge : ∀ i, Es.getD i [] = [] ∨ ∃ E, Es[i]? = some E ∧ Es.getD i [] = E := fun i => by
    rw [List.getD_eq_getElem?_getD]
    cases e : Es[i]? with
    | none => exact .inl rfl
    | some E => exact .inr ⟨E, rfl, rfl⟩
  have dj : ∀ (Es : List Mem) (i j : Nat) (A B : Mem) (a : Addr), (keys Es.flatten).Nodup → i < j → Es[i]? = some A → Es[j]? = some B → a ∈ keys A → a ∈ keys B → False := by
    intro Es
    induction Es with
    | nil => intro i j A B a _ _ e; cases e
    | cons E Es ih =>
      intro i j A B a nd hij e1 e2 ha hb
      rw [List.flatten_cons, keys_append] at nd
      obtain ⟨n1, n2, n3⟩ := List.nodup_append.mp nd
      cases j with
      | zero => omega
      | succ j =>
        have e2' : Es[j]? = some B := e2
        cases i with
        | zero =>
          cases e1
          refine n3 a ha a ?_ rfl
          rw [keys_flatten]
          exact List.mem_flatten.mpr ⟨keys B, List.mem_map.mpr ⟨B, List.mem_of_getElem? e2', rfl⟩, hb⟩
        | succ i => exact ih i j A B a n2 (by omega) e1 e2' ha hb
  refine ⟨fun i => match i with | 0 => [] | i + 1 => Es.getD i [], nd, ?_, ⟨rfl, rfl⟩, fun i sv e => ?_, fun i e he => ?_, fun i => ?_, fun i j a n ha hb => ?_, fun i hi => .inr rfl, fun i a hi ha => ?_, ?_, fun e he => (nomatch he), fun e he => (nomatch he)⟩
  · unfold startD
    rw [List.length_append, List.length_append, List.length_map, List.length_map, List.length_replicate, List.length_replicate, hl.1, hn]
    omega
  · have hi : i < args.length := by
      by_cases z : i < args.length
      · exact z
      · rw [List.getElem?_append_right (by simpa using z), List.getElem?_replicate] at e
        split at e <;> cases e
    rw [List.getElem?_append_left (by simpa using hi), List.getElem?_map] at e
    cases ea : args[i]? with
    | none => rw [ea] at e; cases e
    | some sv' =>
      rw [ea] at e
      cases e
      obtain ⟨d, E, h1, h2, h3⟩ := h.get ea
      refine ⟨d, ?_, ?_⟩
      · unfold startD
        rw [List.getElem?_append_left (by simp [hl.1]; exact hi), List.getElem?_map, h1]
        rfl
      · show Ent lk0 sv d (Es.getD i [])
        rw [List.getD_eq_getElem?_getD, h2]
        exact h3
  · cases i with
    | zero => cases he
    | succ i =>
      rcases ge i with z | ⟨E, z1, z2⟩
      · replace he : e ∈ Es.getD i [] := he
        rw [z] at he; cases he
      · replace he : e ∈ Es.getD i [] := he
        rw [z2] at he
        exact List.mem_flatten.mpr ⟨E, List.mem_of_getElem? z1, he⟩
  · cases i with
    | zero => exact List.nodup_nil
    | succ i =>
      show (keys (Es.getD i [])).Nodup
      rcases ge i with z | ⟨E, z1, z2⟩
      · rw [z]; exact List.nodup_nil
      · rw [z2]
        rw [keys_flatten] at nd
        exact nd.sublist (List.sublist_flatten_of_mem (List.mem_map.mpr ⟨E, List.mem_of_getElem? z1, rfl⟩))
  · cases i with
    | zero => cases ha
    | succ i =>
      cases j with
      | zero => cases hb
      | succ j =>
        replace ha : a ∈ keys (Es.getD i []) := ha
        replace hb : a ∈ keys (Es.getD j []) := hb
        rcases ge i with z | ⟨A, z1, z2⟩
        · rw [z] at ha; cases ha
        · rcases ge j with y | ⟨B, y1, y2⟩
          · rw [y] at hb; cases hb
          · rw [z2] at ha; rw [y2] at hb
            rcases Nat.lt_or_ge i j with k | k
            · exact dj Es i j A B a nd k z1 y1 ha hb
            · exact dj Es j i B A a nd (by omega) y1 z1 hb ha
  · cases i with
    | zero => cases ha
    | succ i =>
      replace ha : a ∈ keys (Es.getD i []) := ha
      have hi : args.length ≤ i := by
        rcases hi with z | z
        · cases z
        · replace z : args.length < i + 1 := z
          omega
      rw [List.getD_eq_getElem?_getD, List.getElem?_eq_none (by rw [hl.2]; exact hi)] at ha
      cases ha
  · show keys (Es.flatten.take Es.flatten.length) = _
    rw [List.take_length]
/-- THE RULE: a def is its function -/
theorem run_ok {x : Bool} {np nl : Nat} {N : List Str} {body : FS} {td : DS} (hn : N.length = np + nl) (hs : SimS np body td) {ds : List D} {M : Mem} {ED : XD} {QD : DK} {Dd : DEnds} (nd : (keys M).Nodup) (h : fdF x np (fDef np nl body) ds M ED QD)
    (d1 : Dd.nx = fun _ M' => Out M QD .non M') (d2 : Dd.rt = Out M QD) (d3 : x = true → Dd.ex = fun _ c f M' => ∃ M'', M''.Sublist M' ∧ Pre M M'' ∧ ED c f M'') : td Dd (startD N ds) M := by
  obtain ⟨args, Es, ha, he, rfl, h⟩ := h
  subst ha
  unfold fDef at h
  rw [if_pos rfl] at h
  refine hs ⟨args.length, Es.flatten, fun i => keys (Es.getD i []), lk0⟩ rfl _ (args.map some ++ List.replicate nl none) _ _ (start_rel he nd hn) ?_
  cases e : body (args.map some ++ List.replicate nl none) with
  | nx fs =>
    rw [e] at h
    unfold rsOf at h
    dsimp only at h
    cases eo : outOf args fs with
    | none => rw [eo] at h; exact h.elim
    | some outs =>
      rw [eo] at h
      intro sl M r
      obtain ⟨Ew, Es', g1, g2, g3, g4, g5⟩ := end_ok he r eo rfl
      rw [d1]
      exact ⟨_, g4, g5, h _ _ _ g1 g2 g3⟩
  | rt w fs =>
    rw [e] at h
    unfold rsOf at h
    dsimp only at h
    cases hp : isPot w with
    | true => rw [hp, if_pos rfl] at h; exact h.elim
    | false =>
      rw [hp, if_neg Bool.false_ne_true] at h
      cases eo : outOf args fs with
      | none => rw [eo] at h; exact h.elim
      | some outs =>
        rw [eo] at h
        intro d sl M r
        obtain ⟨Ew, Es', g1, g2, g3, g4, g5⟩ := end_ok he r eo hp
        rw [d2]
        exact ⟨_, g4, g5, h _ _ _ g1 g2 g3⟩
  | bk fs => rw [e] at h; exact h.elim
  | ct fs => rw [e] at h; exact h.elim
  | ex c f fs =>
    rw [e] at h
    unfold rsOf at h
    dsimp only at h
    cases eo : outOf args fs with
    | none => rw [eo] at h; exact h.elim
    | some outs =>
      rw [eo] at h
      intro sl M r
      obtain ⟨Ew, Es', g1, g2, g3, g4, g5⟩ := end_ok he r eo rfl
      rw [g3.2, List.append_nil] at g4 g5
      obtain ⟨h0, h⟩ := h
      rw [d3 h0]
      exact ⟨_, g4, g5, h _ g1 g2⟩
  | bad => rw [e] at h; exact h.elim
end F

/-! F7: calls of defs. -/
namespace OD
open PySem PySem.Spec L2
/-- a call of a def that lets nothing out: which objects it is handed is told when the reading is shown -/
def dCallN (F : FD) (dr : DA) : DE := fun sl M ED Q => dr sl M ED fun ds M1 => ∃ ks : List Nat, ks.Nodup ∧ (sel ks M1).length = ks.length ∧ F ds (sel ks M1) (fun _ _ _ => False) fun d Mc => (keys (putM ks M1 Mc)).Nodup → Q d (putM ks M1 Mc)
section
variable {X : Cx} {E : L2.St → XK} {K : PySem.W.Frag} {a : Expr} {es : List Expr} {pos p : Pos} {dr : DA} {F : FD} {x : Str} {ps : List Str} {k : Nat}
theorem sim_callN {t : TA} (s : OD.SimA K E t dr) : OD.SimE K E (tCall (spD K F) [] E0 t) (dCallN F dr) := by
  intro S0 sl M σ H Q QD ED k xl hd l
  refine s S0 sl M σ H _ _ ED k xl hd fun ds M1 vs H1 m1 x1 r1 q1 => ?_
  obtain ⟨ks, hk, hl, q⟩ := q1
  rw [List.append_nil]
  refine ⟨mk0 S0 ks M1, ds, sel ks M1, _, _, m1.sel hk, by rw [mk0_sm]; exact r1, q, fun d M' v H' m' x' pr r' q' => ?_, fun cls fs M' dd H' m' x' pr r' q' => q'.elim⟩
  obtain ⟨g1, g2, g3⟩ := put_back m1 hk hl m' x' pr
  exact l d _ v H' g1 (x1.trans g2) (by rw [g3]; exact r') (q' g1.nd)
theorem de_callN (c : DefOk X.prog X.w X.K X.mg X.base k x ps F) (hr : Room k X.A) (ha : DAx X E (a :: es) dr) (hg : Gl X x := by rfl) (hdb : (x == ("__debug__" : Str)) = false := by decide)
    (he : starEach (a :: es) X.env = (false, eval a X.env) :: starEach es X.env := by rfl) (hpl : (backTo pos (starEach es X.env)).any (·.1) = false := by rfl) : DEx X E (.Call (.Name x p) (a :: es) [] pos) (dCallN F dr) := by
  obtain ⟨f, fd, m, kp, b, G⟩ := c
  obtain ⟨t, pa, s⟩ := ha
  exact ⟨_, pe_call G hr hg m kp b .nil pass0 pa hdb he hpl, sim_callN s⟩
theorem de_callN0 (c : DefOk X.prog X.w X.K X.mg X.base k x ps F) (hr : Room k X.A) (hg : Gl X x := by rfl) (hdb : (x == ("__debug__" : Str)) = false := by decide) : DEx X E (.Call (.Name x p) [] [] pos) (dCallN F dNil) := by
  obtain ⟨f, fd, m, kp, b, G⟩ := c
  exact ⟨_, pe_call0 G hr hg m kp b .nil pass0 hdb, sim_callN fun S0 sl M σ H Q QD ED k xl hd l => l _ _ _ _ k.mem (.refl _ _) .nil hd⟩
end
end OD
namespace F
open PySem PySem.Spec L2 OD
def fdN (np : Nat) (ff : FF) : FD := fun ds M ED Q => (keys M).Nodup ∧ fdF false np ff ds M ED Q
theorem fdN_len {np : Nat} {ff : FF} : ∀ ds M ED QD, fdN np ff ds M ED QD → ds.length = np := fun ds M ED QD h => fdF_len ds M ED QD h.2
section
variable {fa fb fc : FE} {oa ob oc : FO} {da db dc : DE} {ta tb : FT} {ua ub : DT} {as : FA} {dr : DA} {fi : FI} {di : DI} {np : Nat} {s1 s2 : FS} {t1 t2 : DS}
abbrev AD := D ⊕ Nat
abbrev FR := Sl → R (List AD)
inductive ArgD (sl : Slots) : List AD → List D → Prop
  | nil : ArgD sl [] []
  | d {d : D} {xs : List AD} {ds : List D} : ArgD sl xs ds → ArgD sl (.inl d :: xs) (d :: ds)
  | o {j : Nat} {d : D} {xs : List AD} {ds : List D} : sl[j]? = some (some d) → ArgD sl xs ds → ArgD sl (.inr j :: xs) (d :: ds)
def PoR (c : Cz) (sl : Slots) (ED : XD) (Q : List D → Mem → Prop) : R (List AD) → Prop
  | .ok xs fs => ∀ ds M, Rel c fs sl M → ArgD sl xs ds → Q ds M
  | .ex cls f fs => ∀ M, Rel c fs sl M → ED cls f M
  | .bad => False
def SimR (fr : FR) (dr : DA) : Prop := ∀ (c : Cz) (fs : Sl) (sl : Slots) (M : Mem) (ED : XD) (Q : List D → Mem → Prop), Rel c fs sl M → PoR c sl ED Q (fr fs) → dr sl M ED Q
@[simp] def rNil (s : Sl) : R (List AD) := .ok [] s
@[simp] def rE (a : FE) (r : FR) (s : Sl) : R (List AD) := (a s).bind fun w s => imK w fun d => (r s).bind fun xs s => .ok (.inl d :: xs) s
@[simp] def rO (j : Nat) (r : FR) (s : Sl) : R (List AD) := match s[j]? with
  | some (some _) => (r s).bind fun xs s => .ok (.inr j :: xs) s
  | _ => .bad
theorem r_nil : SimR rNil dNil := fun c fs sl M ED Q r q => q [] M r .nil
theorem r_e {fr : FR} (ha : SimE fa da) (hr : SimR fr dr) : SimR (rE fa fr) (dCons da dr) := by
  intro c fs sl M ED Q r q
  refine ha c fs sl M ED _ r ?_
  unfold rE at q
  cases e : fa fs with
  | ok w fs1 =>
    rw [e, ok_bind] at q
    cases w with
    | im d =>
      intro d' M1 r1
      obtain rfl := r1.eq
      refine hr c fs1 sl M1 ED _ r1.rel ?_
      unfold imK at q
      dsimp only at q
      cases e2 : fr fs1 with
      | ok ds fs2 => rw [e2] at q; exact fun ds M r a => q _ M r (.d a)
      | ex cl f' fs' => rw [e2] at q; exact q
      | bad => rw [e2] at q; exact q.elim
    | _ => exact q.elim
  | ex cl f' fs' => rw [e] at q; exact q
  | bad => rw [e] at q; exact q.elim
theorem r_o {fr : FR} {j : Nat} (hr : SimR fr dr) : SimR (rO j fr) (dCons (dVar j) dr) := by
  intro c fs sl M ED Q r q
  unfold rO at q
  split at q
  · rename_i sv e
    obtain ⟨E, r'⟩ := r
    obtain ⟨d, h1, h2⟩ := r'.slt j _ e
    refine ⟨d, h1, hr c fs sl M ED _ ⟨E, r'⟩ ?_⟩
    cases e2 : fr fs with
    | ok ds fs2 => rw [e2] at q; exact fun ds M r a => q _ M r (.o h1 a)
    | ex cl f' fs' => rw [e2] at q; exact q
    | bad => rw [e2] at q; exact q.elim
  · exact q.elim
/-- the arguments that are handed, and which slots own them -/
def argSv (s : Sl) : List AD → Option (List Sv)
  | [] => some []
  | .inl d :: xs => (match argSv s xs with | some r => some (.im d :: r) | none => none)
  | .inr j :: xs => (match s[j]?, argSv s xs with | some (some (.lok _ _)), _ => none | some (some sv), some r => some (sv :: r) | _, _ => none)
def ownJ (s : Sl) : List AD → List Nat
  | [] => []
  | .inl _ :: xs => ownJ s xs
  | .inr j :: xs => (match s[j]? with | some (some sv) => if owned sv = true then j :: ownJ s xs else ownJ s xs | _ => ownJ s xs)
/-- what was handed comes back -/
def back (s0 : Sl) : List AD → List Sv → Sl → Sl
  | .inl _ :: xs, _ :: os, s => back s0 xs os s
  | .inr j :: xs, o :: os, s => (match s0[j]? with | some (some sv) => if owned sv = true then back s0 xs os (s.set j (some o)) else back s0 xs os s | _ => back s0 xs os s)
  | _, _, s => s
def rsR (s : Sl) (xs : List AD) (r : Rs) : R Sv := match r with
  | .ok w outs => .ok w (back s xs outs s)
  | .ex _ _ _ => .bad
  | .bad => .bad
def call (np : Nat) (ff : FF) (xs : List AD) (s : Sl) : R Sv := match argSv s xs with
  | some args => if args.length = np ∧ (ownJ s xs).Nodup then rsR s xs (ff args) else .bad
  | none => .bad
@[simp] def fCall (np : Nat) (ff : FF) (r : FR) (s : Sl) : R Sv := (r s).bind fun xs s => call np ff xs s
/-- rows of places -/
inductive At (M : Mem) : List Nat → Mem → Prop
  | nil : At M [] []
  | cons {k : Nat} {e : Addr × N} {ks : List Nat} {L : Mem} : M[k]? = some e → At M ks L → At M (k :: ks) (e :: L)
theorem at_of {M : Mem} : ∀ {L : Mem}, (∀ e ∈ L, e ∈ M) → ∃ ks, At M ks L := by
  intro L
  induction L with
  | nil => intro _; exact ⟨[], .nil⟩
  | cons e L ih =>
    intro h
    obtain ⟨k, hk⟩ := List.getElem?_of_mem (h e (by simp))
    obtain ⟨ks, hks⟩ := ih fun x hx => h x (List.mem_cons_of_mem _ hx)
    exact ⟨k :: ks, .cons hk hks⟩
theorem At.sel {M : Mem} {ks : List Nat} {L : Mem} (h : At M ks L) : sel ks M = L := by
  induction h with
  | nil => rfl
  | cons a b ih => rw [sel_cons, a, ih]; rfl
theorem At.mem {M : Mem} {ks : List Nat} {L : Mem} (h : At M ks L) {k : Nat} (hk : k ∈ ks) : ∃ e ∈ L, M[k]? = some e := by
  induction h with
  | nil => cases hk
  | cons a b ih =>
    rcases List.mem_cons.mp hk with rfl | hk
    · exact ⟨_, by simp, a⟩
    · obtain ⟨e, h1, h2⟩ := ih hk
      exact ⟨e, List.mem_cons_of_mem _ h1, h2⟩
theorem At.nd {M : Mem} {ks : List Nat} {L : Mem} (h : At M ks L) (n : (keys L).Nodup) : ks.Nodup := by
  induction h with
  | nil => exact List.nodup_nil
  | cons a b ih =>
    have n' := List.nodup_cons.mp (show (_ :: keys _).Nodup from n)
    refine List.nodup_cons.mpr ⟨fun z => ?_, ih n'.2⟩
    obtain ⟨e, h1, h2⟩ := b.mem z
    rw [a] at h2
    cases h2
    exact n'.1 (List.mem_map.mpr ⟨_, h1, rfl⟩)
theorem At.len {M : Mem} {ks : List Nat} {L : Mem} (h : At M ks L) : ks.length = L.length := by
  induction h with
  | nil => rfl
  | cons a b ih => rw [List.length_cons, List.length_cons, ih]
theorem At.set {M : Mem} {ks : List Nat} {L : Mem} (h : At M ks L) {k : Nat} (hk : k ∉ ks) (e : Addr × N) : At (M.set k e) ks L := by
  induction h with
  | nil => exact .nil
  | cons a b ih =>
    refine .cons ?_ (ih fun z => hk (List.mem_cons_of_mem _ z))
    rw [List.getElem?_set_ne fun z => hk (by rw [z]; simp)]
    exact a
/-- what stands in the memory when a call is done -/
theorem putM_ok : ∀ {L : Mem} {ks : List Nat} {M L' R : Mem}, At M ks L → (keys L).Nodup → keys L' = keys L → keys (putM ks M (L' ++ R)) = keys M ++ keys R ∧ (∀ e ∈ L' ++ R, e ∈ putM ks M (L' ++ R)) ∧ ∀ e ∈ M, e.1 ∉ keys L → e ∈ putM ks M (L' ++ R) := by
  intro L
  induction L with
  | nil =>
    intro ks M L' R h n k
    cases h
    have : L' = [] := by cases L' with | nil => rfl | cons _ _ => cases k
    subst this
    exact ⟨keys_append, fun e he => List.mem_append_right _ he, fun e he _ => List.mem_append_left _ he⟩
  | cons e L ih =>
    intro ks M L' R h n k
    have hnd := h.nd n
    cases h with
    | cons h1 h2 =>
      rename_i k0 ks
      cases L' with
      | nil => cases k
      | cons e' L' =>
        have k1 : e'.1 = e.1 := (List.cons.inj k).1
        have k2 : keys L' = keys L := (List.cons.inj k).2
        have n' := List.nodup_cons.mp (show (e.1 :: keys L).Nodup from n)
        have nk := (List.nodup_cons.mp hnd).1
        have hk0 : k0 < M.length := (List.getElem?_eq_some_iff.mp h1).1
        obtain ⟨g1, g2, g3⟩ := ih (R := R) (h2.set nk e') n'.2 k2
        have ks' : keys (M.set k0 e') = keys M := by
          have h1' : M[k0]? = some (e.1, e.2) := h1
          have := keys_set (n' := e'.2) h1'
          rw [← k1] at this
          exact this
        show keys (putM ks (M.set k0 e') (L' ++ R)) = _ ∧ _
        refine ⟨by rw [g1, ks'], fun x hx => ?_, fun x hx hn => ?_⟩
        · rcases List.mem_cons.mp hx with rfl | hx
          · refine g3 _ (List.mem_of_getElem? (i := k0) (List.getElem?_set_self hk0)) ?_
            rw [k1]; exact n'.1
          · exact g2 x hx
        · refine g3 x ?_ fun z => hn (List.mem_cons_of_mem _ z)
          obtain ⟨t, ht⟩ := List.getElem?_of_mem hx
          have : k0 ≠ t := fun z => by rw [← z, h1] at ht; cases ht; exact hn (by show _ ∈ _ :: _; simp)
          exact List.mem_of_getElem? (by rw [List.getElem?_set_ne this]; exact ht)
theorem ownJ_inr {s : Sl} {j : Nat} {xs : List AD} : ownJ s (.inr j :: xs) = (match s[j]? with | some (some sv) => if owned sv = true then j :: ownJ s xs else ownJ s xs | _ => ownJ s xs) := rfl
theorem back_inr {s0 s : Sl} {j : Nat} {xs : List AD} {o : Sv} {os : List Sv} : back s0 (.inr j :: xs) (o :: os) s = (match s0[j]? with | some (some sv) => if owned sv = true then back s0 xs os (s.set j (some o)) else back s0 xs os s | _ => back s0 xs os s) := rfl
def esOf (E : Nat → Mem) : AD → Mem
  | .inl _ => []
  | .inr j => E (j + 1)
theorem ent_lk {lk : Lk} {sv : Sv} {d : D} {E : Mem} (h : Ent lk0 sv d E) : Ent lk sv d E := by
  cases sv with
  | lok _ _ => obtain ⟨_, p, od, ws, _, h2⟩ := h; cases h2
  | _ => exact h
def isLok : Sv → Bool
  | .lok _ _ => true
  | _ => false
theorem ent_nolk {lk : Lk} {sv : Sv} {d : D} {E : Mem} (h : Ent lk sv d E) (n : isLok sv = false) : Ent lk0 sv d E := by
  cases sv with
  | lok _ _ => cases n
  | _ => exact h
theorem argSv_inr {s : Sl} {j : Nat} {xs : List AD} {args : List Sv} (h : argSv s (.inr j :: xs) = some args) : ∃ sv r, s[j]? = some (some sv) ∧ isLok sv = false ∧ argSv s xs = some r ∧ args = sv :: r := by
  unfold argSv at h
  split at h
  · cases h
  · rename_i sv r nl e0 e1
    cases h
    refine ⟨sv, r, e0, ?_, e1, rfl⟩
    cases sv with
    | lok a k => exact (nl a k rfl).elim
    | _ => rfl
  · cases h
theorem args_ents {c : Cz} {fs : Sl} {sl : Slots} {M : Mem} {w : Sv} {d : D} {E : Nat → Mem} (r : Rl c fs sl M w d E) : ∀ {xs : List AD} {ds : List D} {args : List Sv}, ArgD sl xs ds → argSv fs xs = some args → Ents args ds (xs.map (esOf E)) := by
  intro xs ds args h
  induction h generalizing args with
  | nil => intro e; cases e; exact .nil
  | d h ih =>
    intro e
    unfold argSv at e
    split at e
    · rename_i r' e'
      cases e
      exact .cons ⟨rfl, rfl⟩ (ih e')
    · cases e
  | o h1 h ih =>
    intro e
    obtain ⟨sv, r', e0, nl, e', rfl⟩ := argSv_inr e
    obtain ⟨d', g1, g2⟩ := r.slt _ _ e0
    rw [h1] at g1; cases g1
    exact .cons (ent_nolk g2 nl) (ih e')
theorem mem_es {c : Cz} {fs : Sl} {sl : Slots} {M : Mem} {w : Sv} {d : D} {E : Nat → Mem} (r : Rl c fs sl M w d E) : ∀ {xs : List AD} {args : List Sv}, argSv fs xs = some args → ∀ {e : Addr × N}, e ∈ (xs.map (esOf E)).flatten → ∃ j ∈ ownJ fs xs, e ∈ E (j + 1) := by
  intro xs
  induction xs with
  | nil => intro args _ e he; cases he
  | cons x xs ih =>
    intro args ha e he
    rw [List.map_cons, List.flatten_cons] at he
    cases x with
    | inl d =>
      unfold argSv at ha
      split at ha
      · rename_i r' e'
        rcases List.mem_append.mp he with he | he
        · cases he
        · exact ih e' he
      · cases ha
    | inr j =>
      obtain ⟨sv, r', e0, nl, e', rfl⟩ := argSv_inr ha
      unfold ownJ
      rw [e0]
      dsimp only
      obtain ⟨d', g1, g2⟩ := r.slt _ _ e0
      rcases List.mem_append.mp he with he | he
      · by_cases ov : owned sv = true
        · rw [if_pos ov]; exact ⟨j, by simp, he⟩
        · replace he : e ∈ E (j + 1) := he
          rw [ent_im g2 (by simpa using ov)] at he
          cases he
      · obtain ⟨k, h1, h2⟩ := ih e' he
        by_cases ov : owned sv = true
        · rw [if_pos ov]; exact ⟨k, List.mem_cons_of_mem _ h1, h2⟩
        · rw [if_neg ov]; exact ⟨k, h1, h2⟩
theorem nd_es {c : Cz} {fs : Sl} {sl : Slots} {M : Mem} {w : Sv} {d : D} {E : Nat → Mem} (r : Rl c fs sl M w d E) : ∀ {xs : List AD} {args : List Sv}, argSv fs xs = some args → (ownJ fs xs).Nodup → (keys (xs.map (esOf E)).flatten).Nodup := by
  intro xs
  induction xs with
  | nil => intro args _ _; exact List.nodup_nil
  | cons x xs ih =>
    intro args ha hn
    rw [List.map_cons, List.flatten_cons, keys_append]
    unfold ownJ at hn
    cases x with
    | inl d =>
      unfold argSv at ha
      dsimp only at hn
      split at ha
      · rename_i r' e'
        exact ih e' hn
      · cases ha
    | inr j =>
      obtain ⟨sv, r', e0, nl, e', rfl⟩ := argSv_inr ha
      dsimp only at hn
      rw [e0] at hn
      dsimp only at hn
      obtain ⟨d', g1, g2⟩ := r.slt _ _ e0
      by_cases ov : owned sv = true
      · rw [if_pos ov] at hn
        obtain ⟨n1, n2⟩ := List.nodup_cons.mp hn
        refine List.nodup_append.mpr ⟨r.ndE (j + 1), ih e' n2, fun a ha b hb z => ?_⟩
        subst z
        obtain ⟨e, he, rfl⟩ := List.mem_map.mp hb
        obtain ⟨k, h1, h2⟩ := mem_es r e' he
        exact r.dis (j + 1) (k + 1) e.1 (fun z => n1 (by rw [show j = k by omega]; exact h1)) ha (List.mem_map.mpr ⟨e, h2, rfl⟩)
      · rw [if_neg ov] at hn
        rw [show esOf E (.inr j) = [] from ent_im g2 (by simpa using ov)]
        exact ih e' hn
theorem es_sub {c : Cz} {fs : Sl} {sl : Slots} {M : Mem} {w : Sv} {d : D} {E : Nat → Mem} (r : Rl c fs sl M w d E) {xs : List AD} {args : List Sv} (h : argSv fs xs = some args) : ∀ e ∈ (xs.map (esOf E)).flatten, e ∈ M := fun e he => by
  obtain ⟨j, _, h2⟩ := mem_es r h he
  exact r.sub _ e h2
theorem back_ok {lk : Lk} {fs : Sl} {sl : Slots} {E : Nat → Mem} : ∀ {xs : List AD} {ds : List D} {outs : List Sv} {Es' : List Mem}, ArgD sl xs ds → Ents outs ds Es' → Es'.map keys = (xs.map (esOf E)).map keys →
    ∀ (s : Sl) (Ec : Nat → Mem), s.length = sl.length → (∀ i sv, s[i]? = some (some sv) → ∃ d, sl[i]? = some (some d) ∧ Ent lk sv d (Ec (i + 1))) →
      ∃ Ec' : Nat → Mem, (back fs xs outs s).length = sl.length ∧ (∀ i sv, (back fs xs outs s)[i]? = some (some sv) → ∃ d, sl[i]? = some (some d) ∧ Ent lk sv d (Ec' (i + 1))) ∧
        ∀ t, (Ec' t = Ec t ∧ ∀ j ∈ ownJ fs xs, t ≠ j + 1) ∨ ((∃ j ∈ ownJ fs xs, t = j + 1) ∧ keys (Ec' t) = keys (E t) ∧ ∀ e ∈ Ec' t, e ∈ Es'.flatten) := by
  intro xs ds outs Es' h
  induction h generalizing outs Es' with
  | nil =>
    intro he hk s Ec hl hs
    cases he
    exact ⟨Ec, hl, hs, fun t => .inl ⟨rfl, fun j hj => by cases hj⟩⟩
  | d h ih =>
    intro he hk s Ec hl hs
    cases he with
    | cons e1 e2 =>
      rename_i os L Es
      obtain ⟨Ec', g1, g2, g3⟩ := ih e2 (List.cons.inj hk).2 s Ec hl hs
      refine ⟨Ec', g1, g2, fun t => ?_⟩
      rcases g3 t with z | ⟨z1, z2, z3⟩
      · exact .inl z
      · exact .inr ⟨z1, z2, fun e he => by rw [List.flatten_cons]; exact List.mem_append_right _ (z3 e he)⟩
  | o h1 h ih =>
    rename_i j d xs ds
    intro he hk s Ec hl hs
    cases he with
    | cons e1 e2 =>
      rename_i o L os Es
      have k1 : keys L = keys (E (j + 1)) := (List.cons.inj hk).1
      have k2 := (List.cons.inj hk).2
      have no : back fs xs os s = back fs xs os s → ownJ fs (.inr j :: xs) = ownJ fs xs → back fs (.inr j :: xs) (o :: os) s = back fs xs os s →
          ∃ Ec' : Nat → Mem, (back fs (.inr j :: xs) (o :: os) s).length = sl.length ∧ (∀ i sv, (back fs (.inr j :: xs) (o :: os) s)[i]? = some (some sv) → ∃ d, sl[i]? = some (some d) ∧ Ent lk sv d (Ec' (i + 1))) ∧
        ∀ t, (Ec' t = Ec t ∧ ∀ k ∈ ownJ fs (.inr j :: xs), t ≠ k + 1) ∨ ((∃ k ∈ ownJ fs (.inr j :: xs), t = k + 1) ∧ keys (Ec' t) = keys (E t) ∧ ∀ e ∈ Ec' t, e ∈ (L :: Es).flatten) := fun _ q1 q2 => by
        obtain ⟨Ec', g1, g2, g3⟩ := ih e2 k2 s Ec hl hs
        rw [q1, q2]
        refine ⟨Ec', g1, g2, fun t => ?_⟩
        rcases g3 t with z | ⟨z1, z2, z3⟩
        · exact .inl z
        · exact .inr ⟨z1, z2, fun e he => by rw [List.flatten_cons]; exact List.mem_append_right _ (z3 e he)⟩
      cases e0 : fs[j]? with
      | none => exact no rfl (by rw [ownJ_inr, e0]) (by rw [back_inr, e0])
      | some o0 =>
        cases o0 with
        | none => exact no rfl (by rw [ownJ_inr, e0]) (by rw [back_inr, e0])
        | some sv =>
          by_cases ov : owned sv = true
          · have q1 : ownJ fs (.inr j :: xs) = j :: ownJ fs xs := by rw [ownJ_inr, e0]; exact if_pos ov
            have q2 : back fs (.inr j :: xs) (o :: os) s = back fs xs os (s.set j (some o)) := by rw [back_inr, e0]; exact if_pos ov
            obtain ⟨Ec', g1, g2, g3⟩ := ih e2 k2 (s.set j (some o)) (fun t => if t = j + 1 then L else Ec t) (by rw [List.length_set]; exact hl) fun i sv' e => by
              by_cases z : j = i
              · subst z
                have hi : j < s.length := by
                  have := (List.getElem?_eq_some_iff.mp e).1
                  rwa [List.length_set] at this
                rw [List.getElem?_set_self hi] at e
                cases e
                exact ⟨d, h1, by rw [if_pos rfl]; exact ent_lk e1⟩
              · rw [List.getElem?_set_ne z] at e
                obtain ⟨d', p1, p2⟩ := hs i sv' e
                exact ⟨d', p1, by rw [if_neg (by omega)]; exact p2⟩
            rw [q1, q2]
            refine ⟨Ec', g1, g2, fun t => ?_⟩
            rcases g3 t with ⟨z1, z2⟩ | ⟨⟨k, z0, z0'⟩, z2, z3⟩
            · by_cases zt : t = j + 1
              · refine .inr ⟨⟨j, by simp, zt⟩, ?_, fun e he => ?_⟩
                · rw [z1, if_pos zt, k1, zt]
                · rw [z1, if_pos zt] at he
                  rw [List.flatten_cons]; exact List.mem_append_left _ he
              · refine .inl ⟨by rw [z1, if_neg zt], fun k hk => ?_⟩
                rcases List.mem_cons.mp hk with rfl | hk
                · exact zt
                · exact z2 k hk
            · exact .inr ⟨⟨k, List.mem_cons_of_mem _ z0, z0'⟩, z2, fun e he => by rw [List.flatten_cons]; exact List.mem_append_right _ (z3 e he)⟩
          · exact no rfl (by rw [ownJ_inr, e0]; exact if_neg ov) (by rw [back_inr, e0]; exact if_neg ov)
theorem keys_take (M : Mem) (n : Nat) : keys (M.take n) = (keys M).take n := by unfold keys; rw [List.map_take]
/-- behind a call -/
theorem call_ok {c : Cz} {fs : Sl} {sl : Slots} {M : Mem} {w0 : Sv} {d0 : D} {E : Nat → Mem} (r : Rl c fs sl M w0 d0 E) {xs : List AD} {ds : List D} {args outs : List Sv} (ha : ArgD sl xs ds) (hg : argSv fs xs = some args) (hn : (ownJ fs xs).Nodup)
    {ks : List Nat} (hks : At M ks (xs.map (esOf E)).flatten) {Es' : List Mem} {w : Sv} {d : D} {Ew : Mem} (ho : Ents outs ds Es') (hk : Es'.map keys = (xs.map (esOf E)).map keys) (hw : Ent lk0 w d Ew)
    (nd : (keys (putM ks M (Es'.flatten ++ Ew))).Nodup) : RelW c (back fs xs outs fs) sl (putM ks M (Es'.flatten ++ Ew)) w d := by
  obtain ⟨p1, p2, p3⟩ := putM_ok (R := Ew) hks (nd_es r hg hn) (by rw [keys_flatten, keys_flatten, hk] : keys Es'.flatten = _)
  obtain ⟨Ec, g1, g2, g3⟩ := back_ok (fs := fs) ha ho hk fs E r.len r.slt
  have kE : ∀ t, keys (Ec t) = keys (E t) := fun t => by
    rcases g3 t with ⟨z, _⟩ | ⟨_, z, _⟩
    · rw [z]
    · exact z
  have mk : ∀ t a, a ∈ keys (E t) → a ∈ keys M := fun t a ha => by
    obtain ⟨e, he, rfl⟩ := List.mem_map.mp ha
    exact List.mem_map.mpr ⟨e, r.sub t e he, rfl⟩
  have nd' := nd
  rw [p1] at nd'
  have dj : ∀ a, a ∈ keys M → a ∈ keys Ew → False := fun a h1 h2 => (List.nodup_append.mp nd').2.2 a h1 a h2 rfl
  have ek : ∀ t, keys (if t = 0 then Ew else Ec t) = if t = 0 then keys Ew else keys (E t) := fun t => by
    by_cases z : t = 0
    · rw [if_pos z, if_pos z]
    · rw [if_neg z, if_neg z, kE]
  refine ⟨fun t => if t = 0 then Ew else Ec t, nd, g1, ent_lk hw, fun i sv e => ?_, fun t e he => ?_, fun t => ?_, fun t u a n ha hb => ?_, fun i hi => ?_, fun t a ht ha => ?_, ?_, fun e he => ?_, fun e he t ht => ?_⟩
  · obtain ⟨d, h1, h2⟩ := g2 i sv e
    exact ⟨d, h1, by rw [if_neg (Nat.succ_ne_zero i)]; exact h2⟩
  · by_cases z : t = 0
    · rw [if_pos z] at he; exact p2 e (List.mem_append_right _ he)
    · rw [if_neg z] at he
      rcases g3 t with ⟨z1, z2⟩ | ⟨_, _, z3⟩
      · rw [z1] at he
        refine p3 e (r.sub t e he) fun hz => ?_
        obtain ⟨e', he', ee⟩ := List.mem_map.mp hz
        obtain ⟨j, h1, h2⟩ := mem_es r hg he'
        exact r.dis t (j + 1) e.1 (z2 j h1) (List.mem_map.mpr ⟨e, he, rfl⟩) (List.mem_map.mpr ⟨e', h2, ee⟩)
      · exact p2 e (List.mem_append_left _ (z3 e he))
  · rw [ek]
    by_cases z : t = 0
    · rw [if_pos z]; exact ent_nd hw
    · rw [if_neg z]; exact r.ndE t
  · rw [ek] at ha hb
    by_cases z : t = 0
    · rw [if_pos z] at ha
      rw [if_neg fun y => n (by rw [z, y])] at hb
      exact dj a (mk u a hb) ha
    · rw [if_neg z] at ha
      by_cases y : u = 0
      · rw [if_pos y] at hb; exact dj a (mk t a ha) hb
      · rw [if_neg y] at hb; exact r.dis t u a n ha hb
  · rw [if_neg (Nat.succ_ne_zero i)]
    rcases r.pin i hi with z | z
    · left
      have := kE (i + 1)
      rw [z] at this
      cases h : Ec (i + 1) with
      | nil => rfl
      | cons _ _ => rw [h] at this; cases this
    · right; rw [kE]; exact z
  · rw [ek] at ha
    by_cases z : t = 0
    · rw [if_pos z] at ha; exact fun y => dj a (pre_keys r.pre a y) ha
    · rw [if_neg z] at ha; exact r.frs t a ht ha
  · have hp := r.pre
    unfold Pre at hp ⊢
    rw [keys_take, p1]
    rw [keys_take] at hp
    have hl : c.M0.length ≤ (keys M).length := by
      have := congrArg List.length hp
      unfold keys at this ⊢
      rw [List.length_take, List.length_map, List.length_map] at this
      rw [List.length_map]
      omega
    rw [List.take_append_of_le_length hl]
    exact hp
  · refine p3 e (r.lks e he) fun hz => ?_
    obtain ⟨e', he', ee⟩ := List.mem_map.mp hz
    obtain ⟨j, h1, h2⟩ := mem_es r hg he'
    exact r.lkd e he (j + 1) (List.mem_map.mpr ⟨e', h2, ee⟩)
  · rw [ek] at ht
    by_cases z : t = 0
    · rw [if_pos z] at ht; exact dj e.1 (List.mem_map.mpr ⟨e, r.lks e he, rfl⟩) ht
    · rw [if_neg z] at ht; exact r.lkd e he t ht
theorem s_call {n : Nat} {ff : FF} {fr : FR} (hr : SimR fr dr) : SimE (fCall n ff fr) (dCallN (fdN n ff) dr) := by
  intro c fs sl M ED Q r q
  refine hr c fs sl M ED _ r ?_
  unfold fCall at q
  cases e : fr fs with
  | ok xs fs1 =>
    rw [e, ok_bind] at q
    intro ds M1 r1 ha
    obtain ⟨E, r1⟩ := r1
    unfold call at q
    cases eg : argSv fs1 xs with
    | none => rw [eg] at q; exact q.elim
    | some args =>
      rw [eg] at q
      dsimp only at q
      by_cases hh : args.length = n ∧ (ownJ fs1 xs).Nodup
      · rw [if_pos hh] at q
        have en := args_ents r1 ha eg
        obtain ⟨ks, hks⟩ := at_of (es_sub r1 eg)
        refine ⟨ks, hks.nd (nd_es r1 eg hh.2), by rw [hks.sel, hks.len], ?_⟩
        rw [hks.sel]
        refine ⟨nd_es r1 eg hh.2, args, _, hh.1, en, rfl, ?_⟩
        cases ef : ff args with
        | ok w outs =>
          rw [ef] at q
          intro d Ew Es' g1 g2 g3 g4
          exact q d _ (call_ok r1 ha eg hh.2 hks g1 g2 g3 g4)
        | ex cl f outs => rw [ef] at q; exact q.elim
        | bad => rw [ef] at q; exact q.elim
      · rw [if_neg hh] at q; exact q.elim
  | ex cl f' fs' => rw [e] at q; exact q
  | bad => rw [e] at q; exact q.elim
end
end F

/-! F8: comprehensions; items set; names changed. -/
namespace F
open PySem PySem.Spec L2 OD
section
variable {fa fb fc : FE} {oa ob oc : FO} {da db dc : DE} {ta tb : FT} {ua ub : DT} {as : FA} {dr : DA} {fi : FI} {di : DI} {np : Nat} {s1 s2 : FS} {t1 t2 : DS}
/-! ### comprehensions -/
def wipeF (s : Sl) : List Nat → Sl
  | [] => s
  | v :: vs => (wipeF s vs).set v none
def restF (s0 : Sl) (s : Sl) : List Nat → Sl
  | [] => s
  | v :: vs => (restF s0 s vs).set v ((s0[v]?).getD none)
@[simp] theorem wipeF_nil (s : Sl) : wipeF s [] = s := rfl
@[simp] theorem wipeF_cons (s : Sl) (v : Nat) (vs : List Nat) : wipeF s (v :: vs) = (wipeF s vs).set v none := rfl
@[simp] theorem restF_nil (s0 s : Sl) : restF s0 s [] = s := rfl
@[simp] theorem restF_cons (s0 s : Sl) (v : Nat) (vs : List Nat) : restF s0 s (v :: vs) = (restF s0 s vs).set v ((s0[v]?).getD none) := rfl
@[simp] def free (s : Sl) (v : Nat) : Bool := match s[v]? with
  | some (some (.im _)) => true
  | some (some _) => false
  | _ => true
@[simp] def tYes (s : Sl) : R Bool := .ok true s
def nox {α : Type} : R α → R α
  | .ex _ _ _ => .bad
  | r => r
@[simp] theorem nox_ok {α : Type} (a : α) (s : Sl) : nox (.ok a s) = .ok a s := rfl
noncomputable def lcL (vs : List Nat) (tg : FG) (t : FT) (e : FE) : List D → Sl → List D → R (List D)
  | [], s, acc => .ok acc s
  | x :: xs, s, acc => match tg x (wipeF s vs) with
    | some s1 => (nox (t s1)).bind fun b s2 => if b = true then (nox (e s2)).bind fun w s3 => imK w fun d => cif (acc.length < 16777216) (lcL vs tg t e xs s3 (acc ++ [d])) .bad else lcL vs tg t e xs s2 acc
    | none => .bad
@[simp] theorem lcL_nil (vs tg t e s acc) : lcL vs tg t e [] s acc = .ok acc s := rfl
@[simp] noncomputable def fLc (it : FI) (vs : List Nat) (tg : FG) (t : FT) (e : FE) (s : Sl) : R Sv := (it s).bind fun xs s => if vs.all (free s) = true then (lcL vs tg t e xs s []).bind fun acc s2 => .ok (.im (.lst acc)) (restF s s2 vs) else .bad
@[simp] noncomputable def fLcN (it : FI) (vs : List Nat) (tg : FG) (t : FT) (e : FE) (s : Sl) : R Sv := (it s).bind fun xs s => if vs.all (free s) = true then (lcL vs tg t e xs s []).bind fun acc s2 => .ok (.lst acc) (restF s s2 vs) else .bad
theorem wipeF_len (s : Sl) : ∀ vs : List Nat, (wipeF s vs).length = s.length := by
  intro vs
  induction vs with
  | nil => rfl
  | cons v vs ih => rw [wipeF_cons, List.length_set, ih]
theorem wipeD_len (s : Slots) : ∀ vs : List Nat, (wipeD s vs).length = s.length := by
  intro vs
  induction vs with
  | nil => rfl
  | cons v vs ih => show ((wipeD s vs).set v none).length = _; rw [List.length_set, ih]
theorem restF_len (s0 s : Sl) : ∀ vs : List Nat, (restF s0 s vs).length = s.length := by
  intro vs
  induction vs with
  | nil => rfl
  | cons v vs ih => rw [restF_cons, List.length_set, ih]
theorem wipeF_in (s : Sl) : ∀ (vs : List Nat) (i : Nat) (sv : Sv), (wipeF s vs)[i]? = some (some sv) → i ∉ vs ∧ s[i]? = some (some sv) := by
  intro vs
  induction vs with
  | nil => exact fun i sv e => ⟨by simp, e⟩
  | cons v vs ih =>
    intro i sv e
    rw [wipeF_cons] at e
    by_cases z : v = i
    · subst z
      have hi : v < (wipeF s vs).length := by
        have := (List.getElem?_eq_some_iff.mp e).1
        rwa [List.length_set] at this
      rw [List.getElem?_set_self hi] at e
      cases e
    · rw [List.getElem?_set_ne z] at e
      obtain ⟨h1, h2⟩ := ih i sv e
      exact ⟨fun w => (List.mem_cons.mp w).elim (fun w => z w.symm) h1, h2⟩
theorem wipeD_out (s : Slots) : ∀ (vs : List Nat) (i : Nat), i ∉ vs → (wipeD s vs)[i]? = s[i]? := by
  intro vs
  induction vs with
  | nil => exact fun i _ => rfl
  | cons v vs ih =>
    intro i h
    show ((wipeD s vs).set v none)[i]? = _
    rw [List.getElem?_set_ne fun z => h (by rw [z]; simp)]
    exact ih i fun z => h (List.mem_cons_of_mem _ z)
theorem wipeF_out (s : Sl) : ∀ (vs : List Nat) (i : Nat), i ∉ vs → (wipeF s vs)[i]? = s[i]? := by
  intro vs
  induction vs with
  | nil => exact fun i _ => rfl
  | cons v vs ih =>
    intro i h
    rw [wipeF_cons, List.getElem?_set_ne fun z => h (by rw [z]; simp)]
    exact ih i fun z => h (List.mem_cons_of_mem _ z)
theorem restF_out (s0 s : Sl) : ∀ (vs : List Nat) (i : Nat), i ∉ vs → (restF s0 s vs)[i]? = s[i]? := by
  intro vs
  induction vs with
  | nil => exact fun i _ => rfl
  | cons v vs ih =>
    intro i h
    rw [restF_cons, List.getElem?_set_ne fun z => h (by rw [z]; simp)]
    exact ih i fun z => h (List.mem_cons_of_mem _ z)
theorem restF_in (s0 s : Sl) : ∀ (vs : List Nat) (i : Nat) (sv : Sv), i ∈ vs → (restF s0 s vs)[i]? = some (some sv) → s0[i]? = some (some sv) := by
  intro vs
  induction vs with
  | nil => intro i sv h; cases h
  | cons v vs ih =>
    intro i sv h e
    rw [restF_cons] at e
    by_cases z : v = i
    · subst z
      have hi : v < (restF s0 s vs).length := by
        have := (List.getElem?_eq_some_iff.mp e).1
        rwa [List.length_set] at this
      rw [List.getElem?_set_self hi] at e
      cases e2 : s0[v]? with
      | none => rw [e2] at e; cases e
      | some o => rw [e2] at e; cases e; rfl
    · rw [List.getElem?_set_ne z] at e
      exact ih i sv ((List.mem_cons.mp h).elim (fun w => absurd w.symm z) _root_.id) e
theorem Rel.wipe {c : Cz} {fs : Sl} {sl : Slots} {M : Mem} (r : Rel c fs sl M) (vs : List Nat) : Rel c (wipeF fs vs) (wipeD sl vs) M :=
  r.chg (by rw [wipeF_len, wipeD_len, r.len]) fun i sv e => by
    obtain ⟨h1, h2⟩ := wipeF_in fs vs i sv e
    exact .inr ⟨h2, wipeD_out sl vs i h1⟩
theorem Rel.again {c : Cz} {fs : Sl} {sl sl2 : Slots} {M : Mem} {vs : List Nat} (r : Rel c fs sl2 M) (h : ∀ i : Nat, i ∉ vs → sl2[i]? = (wipeD sl vs)[i]?) (hl : sl2.length = sl.length) : Rel c (wipeF fs vs) (wipeD sl vs) M :=
  r.chg (by rw [wipeF_len, wipeD_len, r.len, hl]) fun i sv e => by
    obtain ⟨h1, h2⟩ := wipeF_in fs vs i sv e
    exact .inr ⟨h2, (h i h1).symm⟩
theorem Rel.rest {c : Cz} {fs0 fs : Sl} {sl : Slots} {M0 M : Mem} {vs : List Nat} (r0 : Rel c fs0 sl M0) (hv : vs.all (free fs0) = true) (r : Rel c (wipeF fs vs) (wipeD sl vs) M) : Rel c (restF fs0 fs vs) sl M := by
  have hl : fs.length = sl.length := by
    have := r.len
    rw [wipeF_len, wipeD_len] at this
    exact this
  refine r.chg (by rw [restF_len, hl]) fun i sv e => ?_
  by_cases h : i ∈ vs
  · left
    have e0 := restF_in fs0 fs vs i sv h e
    have fr := List.all_eq_true.mp hv i h
    unfold free at fr
    rw [e0] at fr
    obtain ⟨E, r0⟩ := r0
    obtain ⟨d, h1, h2⟩ := r0.slt i sv e0
    cases sv with
    | im d' => obtain rfl := h2.1; exact ⟨_, rfl, h1⟩
    | _ => cases fr
  · right
    rw [restF_out fs0 fs vs i h] at e
    exact ⟨by rw [wipeF_out fs vs i h]; exact e, (wipeD_out sl vs i h).symm⟩
theorem lc_core1 {tg : FG} {dg : DG} {vs : List Nat} {fin : List D → Sl → R Sv} (hg : SimG vs tg dg) (ht : SimT ta ua) (he : SimE fa da) {o : Bool}
    {c : Cz} {it : Itm} {xs : List D} (ok : ItOk1 c it xs) {fs1 : Sl} {sl : Slots} {M1 : Mem} {ED : XD} {Q : DK} (r1 : Rel c fs1 sl M1) (hv : vs.all (free fs1) = true) (q : PoE c sl ED Q ((lcL vs tg ta fa xs fs1 []).bind fun acc s2 => fin acc (restF fs1 s2 vs)))
    {Q2 : List D → Mem → Prop} (hfin : ∀ acc s M, Rel c s sl M → PoE c sl ED Q (fin acc s) → Q2 acc M) : ∃ W : Nat → List D → Mem → Prop, W 0 [] M1 ∧ (∀ j acc M, j ≤ it.n → W j acc M → it.gd M) ∧
  (∀ j acc M, j < it.n → W j acc M → dg (it.at_ j) (wipeD sl vs) M fun sl2 M2 => ua sl2 M2 NoX fun b M3 => if b = true then da sl2 M3 NoX fun d M4 => acc.length < 16777216 ∧ W (j + 1) (acc ++ [d]) M4 else W (j + 1) acc M3) ∧
  ∀ acc M, W it.n acc M → Q2 acc M := by
  refine ⟨fun j acc M' => ∃ fsI, Rel c (wipeF fsI vs) (wipeD sl vs) M' ∧ PoE c sl ED Q ((lcL vs tg ta fa (xs.drop j) fsI acc).bind fun acc s2 => fin acc (restF fs1 s2 vs)), ⟨fs1, r1.wipe vs, q⟩, fun _ _ M _ w => w.elim fun fsI w => ok.gd _ _ M w.1, fun j acc M' hj w => ?_, fun acc M' w => ?_⟩
  · obtain ⟨fsI, rI, qI⟩ := w
    have hj' : j < xs.length := by rw [← ok.n]; exact hj
    rw [List.drop_eq_getElem_cons hj'] at qI
    unfold lcL at qI
    rw [ok.at_ j hj']
    cases eg : tg xs[j] (wipeF fsI vs) with
    | none => rw [eg] at qI; exact qI.elim
    | some s1 =>
      rw [eg] at qI
      dsimp only at qI
      refine hg c _ s1 (wipeD sl vs) M' _ _ rI eg fun sl2 k2 r2 => ?_
      have hl2 : sl2.length = sl.length := k2.1.trans (wipeD_len sl vs)
      refine ht c s1 sl2 M' _ _ r2 ?_
      cases et : ta s1 with
      | ex cl f' fs' => rw [et] at qI; exact qI.elim
      | bad => rw [et] at qI; exact qI.elim
      | ok b s2 =>
        rw [et, nox_ok, ok_bind] at qI
        intro M3 r3
        cases b with
        | false =>
          rw [if_neg Bool.false_ne_true] at qI ⊢
          exact ⟨s2, r3.again k2.2 hl2, qI⟩
        | true =>
          rw [if_pos rfl] at qI ⊢
          refine he c s2 sl2 M3 _ _ r3 ?_
          cases ee : fa s2 with
          | ex cl f' fs' => rw [ee] at qI; exact qI.elim
          | bad => rw [ee] at qI; exact qI.elim
          | ok w s3 =>
            rw [ee, nox_ok, ok_bind] at qI
            intro d M4 r4
            cases w with
            | im x =>
              obtain rfl := r4.eq
              unfold imK at qI
              dsimp only at qI
              by_cases hz : acc.length < 16777216
              · rw [cif_pos hz] at qI
                exact ⟨hz, s3, r4.rel.again k2.2 hl2, qI⟩
              · rw [cif_neg hz] at qI; exact qI.elim
            | _ => exact qI.elim
  · obtain ⟨fsI, rI, qI⟩ := w
    rw [ok.n, List.drop_length] at qI
    exact hfin acc _ M' (r1.rest hv rI) qI
theorem lc_core {o : Bool} {tg : FG} {dg : DG} {vs : List Nat} {fin : List D → Sl → R Sv} (hi : SimI fi di) (hg : SimG vs tg dg) (ht : SimT ta ua) (he : SimE fa da)
    (c : Cz) (fs : Sl) (sl : Slots) (M : Mem) (ED : XD) (Q : DK) (r : Rel c fs sl M) (q : PoE c sl ED Q ((fi fs).bind fun xs s => if vs.all (free s) = true then (lcL vs tg ta fa xs s []).bind fun acc s2 => fin acc (restF s s2 vs) else .bad))
    (hfin : ∀ acc s M, Rel c s sl M → PoE c sl ED Q (fin acc s) → al o (.lst acc) M Q) : dLc o di vs dg ua da sl M ED Q := by
  refine hi c fs sl M _ _ r ?_
  cases ei : fi fs with
  | ex cl f' fs' => rw [ei] at q; exact q
  | bad => rw [ei] at q; exact q.elim
  | ok xs fs1 =>
    rw [ei, ok_bind] at q
    intro it M1 r1 ok
    by_cases hv : vs.all (free fs1) = true
    · rw [if_pos hv] at q
      exact lc_core1 hg ht he (o := o) (ok.one c) r1 hv q hfin
    · rw [if_neg hv] at q; exact q.elim
theorem s_lc {tg : FG} {dg : DG} {vs : List Nat} (hi : SimI fi di) (hg : SimG vs tg dg) (ht : SimT ta ua) (he : SimE fa da) : SimE (fLc fi vs tg ta fa) (dLc false di vs dg ua da) := by
  intro c fs sl M ED Q r q
  exact lc_core (o := false) (fin := fun acc s2 => .ok (.im (.lst acc)) s2) hi hg ht he c fs sl M ED Q r q fun acc s M r q => q _ M (r.imI _)
theorem s_lcN {tg : FG} {dg : DG} {vs : List Nat} (hi : SimI fi di) (hg : SimG vs tg dg) (ht : SimT ta ua) (he : SimE fa da) : SimE (fLcN fi vs tg ta fa) (dLc true di vs dg ua da) := by
  intro c fs sl M ED Q r q
  exact lc_core (o := true) (fin := fun acc s2 => .ok (.lst acc) s2) hi hg ht he c fs sl M ED Q r q fun acc s M r q => al_new (n := .lst acc) rfl r q
theorem t_yes : SimT tYes dYes := fun c fs sl M ED Q r q => q M r
/-! ### dicts made by comprehensions -/
@[simp] def keK {α : Type} (w : Sv) (f : Key → R α) : R α := match w with
  | .im d => (match keyD d with | some k => f k | none => .bad)
  | _ => .bad
noncomputable def dcL (vs : List Nat) (tg : FG) (t : FT) (kf e : FE) : List D → Sl → List (Key × D) → R (List (Key × D))
  | [], s, acc => .ok acc s
  | x :: xs, s, acc => match tg x (wipeF s vs) with
    | some s1 => (nox (t s1)).bind fun b s2 => if b = true then (nox (kf s2)).bind fun w s3 => keK w fun k => (nox (e s3)).bind fun w s4 => imK w fun d => cif (acc.length < 16777216) (dcL vs tg t kf e xs s4 (putD acc k d)) .bad else dcL vs tg t kf e xs s2 acc
    | none => .bad
@[simp] theorem dcL_nil (vs tg t kf e s acc) : dcL vs tg t kf e [] s acc = .ok acc s := rfl
@[simp] noncomputable def fDc (it : FI) (vs : List Nat) (tg : FG) (t : FT) (kf e : FE) (s : Sl) : R Sv := (it s).bind fun xs s => if vs.all (free s) = true then (dcL vs tg t kf e xs s []).bind fun acc s2 => .ok (.im (.dic acc)) (restF s s2 vs) else .bad
@[simp] noncomputable def fDcN (it : FI) (vs : List Nat) (tg : FG) (t : FT) (kf e : FE) (s : Sl) : R Sv := (it s).bind fun xs s => if vs.all (free s) = true then (dcL vs tg t kf e xs s []).bind fun acc s2 => .ok (.dic acc) (restF s s2 vs) else .bad
theorem dc_core1 {tg : FG} {dg : DG} {vs : List Nat} {fin : List (Key × D) → Sl → R Sv} (hg : SimG vs tg dg) (ht : SimT ta ua) (hk : SimE fb db) (he : SimE fa da) {o : Bool}
    {c : Cz} {it : Itm} {xs : List D} (ok : ItOk1 c it xs) {fs1 : Sl} {sl : Slots} {M1 : Mem} {ED : XD} {Q : DK} (r1 : Rel c fs1 sl M1) (hv : vs.all (free fs1) = true) (q : PoE c sl ED Q ((dcL vs tg ta fb fa xs fs1 []).bind fun acc s2 => fin acc (restF fs1 s2 vs)))
    {Q2 : List (Key × D) → Mem → Prop} (hfin : ∀ acc s M, Rel c s sl M → PoE c sl ED Q (fin acc s) → Q2 acc M) : ∃ W : Nat → List (Key × D) → Mem → Prop, W 0 [] M1 ∧ (∀ j acc M, j ≤ it.n → W j acc M → it.gd M) ∧
  (∀ j acc M, j < it.n → W j acc M → dg (it.at_ j) (wipeD sl vs) M fun sl2 M2 => ua sl2 M2 NoX fun b M3 => if b = true then db sl2 M3 NoX fun dk M4 => ∃ k, keyD dk = some k ∧ da sl2 M4 NoX fun d M5 => acc.length < 16777216 ∧ W (j + 1) (putD acc k d) M5 else W (j + 1) acc M3) ∧
  ∀ acc M, W it.n acc M → Q2 acc M := by
  refine ⟨fun j acc M' => ∃ fsI, Rel c (wipeF fsI vs) (wipeD sl vs) M' ∧ PoE c sl ED Q ((dcL vs tg ta fb fa (xs.drop j) fsI acc).bind fun acc s2 => fin acc (restF fs1 s2 vs)), ⟨fs1, r1.wipe vs, q⟩, fun _ _ M _ w => w.elim fun fsI w => ok.gd _ _ M w.1, fun j acc M' hj w => ?_, fun acc M' w => ?_⟩
  · obtain ⟨fsI, rI, qI⟩ := w
    have hj' : j < xs.length := by rw [← ok.n]; exact hj
    rw [List.drop_eq_getElem_cons hj'] at qI
    unfold dcL at qI
    rw [ok.at_ j hj']
    cases eg : tg xs[j] (wipeF fsI vs) with
    | none => rw [eg] at qI; exact qI.elim
    | some s1 =>
      rw [eg] at qI
      dsimp only at qI
      refine hg c _ s1 (wipeD sl vs) M' _ _ rI eg fun sl2 k2 r2 => ?_
      have hl2 : sl2.length = sl.length := k2.1.trans (wipeD_len sl vs)
      refine ht c s1 sl2 M' _ _ r2 ?_
      cases et : ta s1 with
      | ex cl f' fs' => rw [et] at qI; exact qI.elim
      | bad => rw [et] at qI; exact qI.elim
      | ok b s2 =>
        rw [et, nox_ok, ok_bind] at qI
        intro M3 r3
        cases b with
        | false =>
          rw [if_neg Bool.false_ne_true] at qI ⊢
          exact ⟨s2, r3.again k2.2 hl2, qI⟩
        | true =>
          rw [if_pos rfl] at qI ⊢
          refine hk c s2 sl2 M3 _ _ r3 ?_
          cases ek : fb s2 with
          | ex cl f' fs' => rw [ek] at qI; exact qI.elim
          | bad => rw [ek] at qI; exact qI.elim
          | ok wk s2' =>
            rw [ek, nox_ok, ok_bind] at qI
            intro dk M3' r3'
            cases wk with
            | im xk =>
              obtain rfl := r3'.eq
              unfold keK at qI
              dsimp only at qI
              cases ekd : keyD dk with
              | none => rw [ekd] at qI; exact qI.elim
              | some key =>
                rw [ekd] at qI
                refine ⟨key, rfl, he c s2' sl2 M3' _ _ r3'.rel ?_⟩
                dsimp only at qI
                cases ee : fa s2' with
                | ex cl f' fs' => rw [ee] at qI; exact qI.elim
                | bad => rw [ee] at qI; exact qI.elim
                | ok w s3 =>
                  rw [ee, nox_ok, ok_bind] at qI
                  intro d M4 r4
                  cases w with
                  | im x =>
                    obtain rfl := r4.eq
                    unfold imK at qI
                    dsimp only at qI
                    by_cases hz : acc.length < 16777216
                    · rw [cif_pos hz] at qI
                      exact ⟨hz, s3, r4.rel.again k2.2 hl2, qI⟩
                    · rw [cif_neg hz] at qI; exact qI.elim
                  | _ => exact qI.elim
            | _ => exact qI.elim
  · obtain ⟨fsI, rI, qI⟩ := w
    rw [ok.n, List.drop_length] at qI
    exact hfin acc _ M' (r1.rest hv rI) qI
theorem dc_core {o : Bool} {tg : FG} {dg : DG} {vs : List Nat} {fin : List (Key × D) → Sl → R Sv} (hi : SimI fi di) (hg : SimG vs tg dg) (ht : SimT ta ua) (hk : SimE fb db) (he : SimE fa da)
    (c : Cz) (fs : Sl) (sl : Slots) (M : Mem) (ED : XD) (Q : DK) (r : Rel c fs sl M) (q : PoE c sl ED Q ((fi fs).bind fun xs s => if vs.all (free s) = true then (dcL vs tg ta fb fa xs s []).bind fun acc s2 => fin acc (restF s s2 vs) else .bad))
    (hfin : ∀ acc s M, Rel c s sl M → PoE c sl ED Q (fin acc s) → al o (.dic acc) M Q) : dDc o di vs dg ua db da sl M ED Q := by
  refine hi c fs sl M _ _ r ?_
  cases ei : fi fs with
  | ex cl f' fs' => rw [ei] at q; exact q
  | bad => rw [ei] at q; exact q.elim
  | ok xs fs1 =>
    rw [ei, ok_bind] at q
    intro it M1 r1 ok
    by_cases hv : vs.all (free fs1) = true
    · rw [if_pos hv] at q
      exact dc_core1 hg ht hk he (o := o) (ok.one c) r1 hv q hfin
    · rw [if_neg hv] at q; exact q.elim
theorem s_dc {tg : FG} {dg : DG} {vs : List Nat} (hi : SimI fi di) (hg : SimG vs tg dg) (ht : SimT ta ua) (hk : SimE fb db) (he : SimE fa da) : SimE (fDc fi vs tg ta fb fa) (dDc false di vs dg ua db da) := by
  intro c fs sl M ED Q r q
  exact dc_core (o := false) (fin := fun acc s2 => .ok (.im (.dic acc)) s2) hi hg ht hk he c fs sl M ED Q r q fun acc s M r q => q _ M (r.imI _)
theorem s_dcN {tg : FG} {dg : DG} {vs : List Nat} (hi : SimI fi di) (hg : SimG vs tg dg) (ht : SimT ta ua) (hk : SimE fb db) (he : SimE fa da) : SimE (fDcN fi vs tg ta fb fa) (dDc true di vs dg ua db da) := by
  intro c fs sl M ED Q r q
  exact dc_core (o := true) (fin := fun acc s2 => .ok (.dic acc) s2) hi hg ht hk he c fs sl M ED Q r q fun acc s M r q => al_new (n := .dic acc) rfl r q
/-! ### x[i] = v, x op= e, a, b = e1, e2 -/
@[simp] noncomputable def setF (k d : D) : Sv → Option Sv
  | .lst xs => (match k with | .int i => (match ixN xs.length i with | some j => some (.lst (xs.set j d)) | none => none) | _ => none)
  | .dic kvs => (match k with
    | .int i => cif (kvs.length < 16777216) (some (.dic (putD kvs (.inl i) d))) (none)
    | .str x => cif (kvs.length < 16777216) (some (.dic (putD kvs (.inr x) d))) (none)
    | _ => none)
  | _ => none
@[simp] noncomputable def fSetIx (i : Nat) (ix v : FE) (s : Sl) : O := (v s).thn fun w s => imS w fun d => match s[i]? with
  | some (some _) => (ix s).thn fun wk s => imS wk fun k => (match s[i]? with
    | some (some sv) => (match setF k d sv with | some sv' => .nx (s.set i (some sv')) | none => .bad)
    | _ => .bad)
  | _ => .bad
theorem s_setIx {i : Nat} (hv : SimE fa da) (hi : SimE fb db) : SimS np (fSetIx i fb fa) (dSetIx da (dVar i) db) := by
  intro c hc Dd fs sl M r q
  refine hv c fs sl M _ _ r (poE_st q fun w fs1 e q d M1 r1 => ?_)
  cases w with
  | im x =>
    obtain rfl := r1.eq
    unfold imS at q
    dsimp only at q
    split at q
    · rename_i sv0 e0
      obtain ⟨E, r1'⟩ := r1.rel
      obtain ⟨x0, h1, h2⟩ := r1'.slt i _ e0
      refine ⟨x0, h1, hi c fs1 sl M1 _ _ r1.rel (poE_st q fun wk fs2 e q k M2 r2 => ?_)⟩
      cases wk with
      | im y =>
        obtain rfl := r2.eq
        dsimp only at q
        split at q
        · rename_i sv e3
          cases sv with
          | lst xs =>
            obtain ⟨p, t, g1, g2, g3⟩ := r2.rel.lst e3
            rw [h1] at g1; cases g1
            refine ⟨t, _, g2, ?_⟩
            unfold setF at q
            dsimp only at q
            cases k with
            | int ii =>
              dsimp only at q
              cases ej : ixN xs.length ii with
              | none => rw [ej] at q; exact q.elim
              | some j => rw [ej] at q; exact ⟨j, ej, q _ _ (g3 _)⟩
            | _ => exact q.elim
          | dic kvs =>
            obtain ⟨p, t, g1, g2, g3⟩ := r2.rel.dic e3
            rw [h1] at g1; cases g1
            refine ⟨t, _, g2, ?_⟩
            unfold setF at q
            dsimp only at q
            cases k with
            | int ii =>
              dsimp only at q
              by_cases hz : kvs.length < 16777216
              · rw [cif_pos hz] at q; exact ⟨hz, q _ _ (g3 _)⟩
              · rw [cif_neg hz] at q; exact q.elim
            | str ii =>
              dsimp only at q
              by_cases hz : kvs.length < 16777216
              · rw [cif_pos hz] at q; exact ⟨hz, q _ _ (g3 _)⟩
              · rw [cif_neg hz] at q; exact q.elim
            | _ => exact q.elim
          | _ => exact q.elim
        · exact q.elim
      | _ => exact q.elim
    · exact q.elim
  | _ => exact q.elim
@[simp] def fAug (i : Nat) (f : D → D → Option D) (b : FO) (s : Sl) : O := match s[i]? with
  | some (some _) => (b s).thn fun h s => (match look i s, h s with
    | some x, some y => (match f x y with | some z => .nx (s.set i (some (.im z))) | none => .bad)
    | _, _ => .bad)
  | _ => .bad
theorem s_aug {i : Nat} {rd : D → D → Mem → DK → Prop} {f : D → D → Option D} (hf : OpF rd f) (hb : SimO ob db) : SimS np (fAug i f ob) (dAug i rd db) := by
  intro c hc Dd fs sl M r q
  unfold fAug at q
  split at q
  · rename_i sv0 e0
    obtain ⟨E, r'⟩ := r
    obtain ⟨x0, h1, h2⟩ := r'.slt i _ e0
    refine ⟨x0, h1, hb c fs sl M _ _ ⟨E, r'⟩ (poO_st q fun g fs1 e q y M1 r1 l1 => ?_)⟩
    split at q
    · rename_i x' y' gx gy
      refine look_vw r1 gx h1 (l1 fs1 M1 y' _ r1 gy ?_)
      cases ef : f x' y' with
      | some z => rw [ef] at q; exact hf _ _ _ _ _ ef (q _ M1 (r1.set i z))
      | none => rw [ef] at q; exact q.elim
    · exact q.elim
  · exact q.elim
@[simp] def fPar (i j : Nat) (a : FA) (s : Sl) : O := (a s).thn fun ds s => match ds with
  | [v, w] => .nx ((s.set i (some (.im v))).set j (some (.im w)))
  | _ => .bad
theorem s_par {i j : Nat} (ha : SimA as dr) : SimS np (fPar i j as) (dPar i j dr) := by
  intro c hc Dd fs sl M r q
  refine ha c fs sl M _ _ r (poA_st q fun ds fs1 e q M1 r1 => ?_)
  split at q
  · rename_i v w
    exact ⟨v, w, rfl, q _ M1 ((r1.set i v).set j w)⟩
  · exact q.elim
/-! ### dicts: get, setdefault, clear -/
@[simp] def fGet2 (a : FO) (b c : FE) (s : Sl) : R Sv := (a s).bind fun g s => match g s with
  | some (.dic _) => (b s).bind fun w s => imK w fun y => (c s).bind fun w s => imK w fun z => (match g s, keyD y with
    | some (.dic kvs), some k => .ok (.im ((lookD kvs k).getD z)) s
    | _, _ => .bad)
  | _ => .bad
theorem s_get2 (ha : SimO oa da) (hb : SimE fb db) (hc : SimE fc dc) : SimE (fGet2 oa fb fc) (dGet2 da db dc) := by
  intro c fs sl M ED Q r q
  refine ha c fs sl M ED _ r (poO_cases q fun g fs1 e q x M1 r1 l1 => ?_)
  split at q
  · rename_i kvs0 g0
    refine ⟨l1 fs1 M1 _ _ r1 g0 ⟨_, rfl⟩, hb c fs1 sl M1 ED _ r1 (poE_cases q fun w fs2 e q y M2 r2 => ?_)⟩
    cases w with
    | im y' =>
      obtain rfl := r2.eq
      unfold imK at q
      dsimp only at q
      refine hc c fs2 sl M2 ED _ r2.rel (poE_cases q fun w fs3 e q z M3 r3 => ?_)
      cases w with
      | im z' =>
        obtain rfl := r3.eq
        dsimp only at q
        split at q
        · rename_i kvs k g3 ek
          exact l1 fs3 M3 _ _ r3.rel g3 ⟨kvs, k, rfl, ek, q _ M3 (r3.rel.imI _)⟩
        · exact q.elim
      | _ => exact q.elim
    | _ => exact q.elim
  · exact q.elim
@[simp] noncomputable def fSetd (i : Nat) (b c : FE) (s : Sl) : R Sv := match s[i]? with
  | some (some (.dic _)) => (b s).bind fun w s => imK w fun y => (c s).bind fun w s => imK w fun z => (match s[i]?, keyD y with
    | some (some (.dic kvs)), some k => cif (kvs.length < 16777216) ((match lookD kvs k with | some d => .ok (.im d) s | none => .ok (.im z) (s.set i (some (.dic (putD kvs k z)))))) (.bad)
    | _, _ => .bad)
  | _ => .bad
theorem s_setd {i : Nat} (hb : SimE fb db) (hc : SimE fc dc) : SimE (fSetd i fb fc) (dSetd (dVar i) db dc) := by
  intro c fs sl M ED Q r q
  unfold fSetd at q
  split at q
  · rename_i kvs0 e0
    obtain ⟨p0, k0, h1, h2, h3⟩ := r.dic e0
    refine ⟨_, h1, ⟨k0, _, h2, _, rfl⟩, hb c fs sl M ED _ r (poE_cases q fun w fs2 e q y M2 r2 => ?_)⟩
    cases w with
    | im y' =>
      obtain rfl := r2.eq
      unfold imK at q
      dsimp only at q
      refine hc c fs2 sl M2 ED _ r2.rel (poE_cases q fun w fs3 e q z M3 r3 => ?_)
      cases w with
      | im z' =>
        obtain rfl := r3.eq
        dsimp only at q
        split at q
        · rename_i kvs k e3 ek
          obtain ⟨p, t, g1, g2, g3⟩ := r3.rel.dic e3
          rw [h1] at g1; cases g1
          by_cases hz : kvs.length < 16777216
          · rw [cif_pos hz] at q
            refine ⟨p0, t, kvs, k, rfl, g2, ek, hz, ?_⟩
            cases el : lookD kvs k with
            | some d => rw [el] at q; exact q _ M3 (r3.rel.imI _)
            | none => rw [el] at q; exact q _ _ ((g3 _).imI _)
          · rw [cif_neg hz] at q; exact q.elim
        · exact q.elim
      | _ => exact q.elim
    | _ => exact q.elim
  · exact q.elim
@[simp] def fClear (i : Nat) (s : Sl) : R Sv := match s[i]? with
  | some (some (.dic _)) => .ok (.im .non) (s.set i (some (.dic [])))
  | _ => .bad
theorem s_clear {i : Nat} : SimE (fClear i) (dClear (dVar i)) := by
  intro c fs sl M ED Q r q
  unfold fClear at q
  split at q
  · rename_i kvs e
    obtain ⟨p, k, h1, h2, h3⟩ := r.dic e
    exact ⟨_, h1, p, k, kvs, rfl, h2, q _ _ ((h3 _).imI _)⟩
  · exact q.elim
end
end F

/-! F9: operators and built-in functions, by values; making objects, == of own classes. -/
namespace F
open PySem PySem.Spec L2 OD
theorem ite_inv {α : Type} {p : Prop} [Decidable p] {a z : α} (h : (if p then some a else none) = some z) : p ∧ a = z := by
  by_cases hp : p
  · rw [if_pos hp] at h; exact ⟨hp, Option.some.inj h⟩
  · rw [if_neg hp] at h; cases h
@[simp] noncomputable def addF : D → D → Option D
  | .int i, .int j => some (.int (i + j))
  | .str x, .str y => cif (x.length + y.length ≤ 16777216) (some (.str (x ++ y))) (none)
  | .lst a, .lst b => cif (a.length + b.length ≤ 16777216) (some (.lst (a ++ b))) (none)
  | .tup a, .tup b => cif (a.length + b.length ≤ 16777216) (some (.tup (a ++ b))) (none)
  | _, _ => none
theorem addF_ok : OpF (addD false) addF := by
  intro x y z M Q h q
  cases x <;> cases y <;> first
    | (cases h; done)
    | (cases h; exact q)
    | (obtain ⟨hz, rfl⟩ := cif_inv h; exact ⟨hz, q⟩)
@[simp] def subF : D → D → Option D
  | .int i, .int j => some (.int (i - j))
  | _, _ => none
theorem subF_ok : OpF subD subF := by
  intro x y z M Q h q
  cases x <;> cases y <;> first | (cases h; done) | (cases h; exact q)
def mulSm (i j : Int) : Bool := (decide (-18446744073709551616 < i) && decide (i < 18446744073709551616)) || (decide (-18446744073709551616 < j) && decide (j < 18446744073709551616)) || (decide (i.natAbs.log2 < 100000) && decide (j.natAbs.log2 < 100000))
theorem mulSm_ok {i j : Int} (h : mulSm i j = true) : MulOk i j := by
  unfold mulSm at h
  rw [Bool.or_eq_true, Bool.or_eq_true, Bool.and_eq_true, Bool.and_eq_true, Bool.and_eq_true] at h
  rcases h with (⟨a, b⟩ | ⟨a, b⟩) | ⟨a, b⟩
  · exact .inl (.inl ⟨by have := of_decide_eq_true a; omega, by have := of_decide_eq_true b; omega⟩)
  · exact .inl (.inr ⟨by have := of_decide_eq_true a; omega, by have := of_decide_eq_true b; omega⟩)
  · exact .inr (by have := of_decide_eq_true a; have := of_decide_eq_true b; unfold CMulW; omega)
theorem mulSm_l {i j : Int} (h : -18446744073709551616 < i) (h2 : i < 18446744073709551616) : mulSm i j = true := by
  unfold mulSm; rw [decide_eq_true h, decide_eq_true h2]; rfl
theorem mulSm_r {i j : Int} (h : -18446744073709551616 < j) (h2 : j < 18446744073709551616) : mulSm i j = true := by
  unfold mulSm; rw [decide_eq_true h, decide_eq_true h2]; simp
@[simp] noncomputable def mulF : D → D → Option D
  | .int i, .int j => if mulSm i j = true then some (.int (i * j)) else none
  | .lst a, .int k => cif (-9223372036854775808 ≤ k ∧ k < 9223372036854775808 ∧ a.length * k.toNat ≤ 16777216) (some (.lst (List.replicate k.toNat a).flatten)) (none)
  | _, _ => none
theorem mulF_ok : OpF (mulD false) mulF := by
  intro x y z M Q h q
  cases x <;> cases y <;> first
    | (cases h; done)
    | (obtain ⟨hz, rfl⟩ := ite_inv h; exact ⟨mulSm_ok hz, q⟩)
    | (obtain ⟨hz, rfl⟩ := cif_inv h; exact ⟨by have := hz.1; omega, by have := hz.2.1; omega, hz.2.2, q⟩)
@[simp] def divF : D → D → Option D
  | .int i, .int j => if 0 < j ∧ j.natAbs.log2 < 9000 then some (.int (i / j)) else none
  | _, _ => none
theorem divF_ok : OpF divD divF := by
  intro x y z M Q h q
  cases x <;> cases y <;> first
    | (cases h; done)
    | (obtain ⟨hz, rfl⟩ := ite_inv h; exact ⟨hz, q⟩)
@[simp] def modF : D → D → Option D
  | .int i, .int j => if 0 < j then some (.int (i % j)) else none
  | _, _ => none
theorem modF_ok : OpF modD modF := by
  intro x y z M Q h q
  cases x <;> cases y <;> first
    | (cases h; done)
    | (obtain ⟨hz, rfl⟩ := ite_inv h; exact ⟨hz, q⟩)
@[simp] noncomputable def powF : D → D → Option D
  | .int i, .int j => cif (0 ≤ j ∧ j ≤ 1000000 ∧ i.natAbs < 18446744073709551616) (some (.int (i ^ j.toNat))) (none)
  | _, _ => none
theorem powF_ok : OpF powD powF := by
  intro x y z M Q h q
  cases x <;> cases y <;> first
    | (cases h; done)
    | (obtain ⟨hz, rfl⟩ := cif_inv h; exact ⟨hz, q⟩)
@[simp] def ordF (f : Int → Int → Bool) (g : List Nat → List Nat → Bool) : D → D → Option D
  | .int i, .int j => some (.bl (f i j))
  | .str x, .str y => some (.bl (g x.cps.toList y.cps.toList))
  | _, _ => none
abbrev ltF := ordF (fun i j => decide (i < j)) (fun x y => decide (x < y))
abbrev leF := ordF (fun i j => decide (i ≤ j)) (fun x y => !decide (y < x))
abbrev gtF := ordF (fun i j => decide (j < i)) (fun x y => decide (y < x))
abbrev geF := ordF (fun i j => decide (j ≤ i)) (fun x y => !decide (x < y))
theorem ordF_ok {f : Int → Int → Bool} {g : List Nat → List Nat → Bool} : OpF (ordD f g) (ordF f g) := by
  intro x y z M Q h q
  cases x <;> cases y <;> first | (cases h; done) | (cases h; exact q)
@[simp] def negF : D → Option D
  | .int i => some (.int (-i))
  | _ => none
theorem negF_ok : UnF negD negF := by
  intro x z M Q h q
  cases x <;> first | (cases h; done) | (cases h; exact q)
/-- == of data -/
def eqW (x y : D) : Option Bool := match eqS x y with
  | some c => some c
  | none => (match toPy x, toPy y with
    | some a, some b => if (SeqAt.shaped a && SeqAt.shaped b) = true then some (PyData.eqv a b) else none
    | _, _ => none)
@[simp] def eqF (n : Bool) (x y : D) : Option D := (eqW x y).map fun c => .bl (xorB n c)
@[simp] theorem xorB_f (c : Bool) : xorB false c = c := rfl
@[simp] theorem xorB_t (c : Bool) : xorB true c = !c := rfl
@[simp] theorem eqW_int (i j : Int) : eqW (.int i) (.int j) = some (decide (i = j)) := rfl
@[simp] theorem eqW_str (i j : Str) : eqW (.str i) (.str j) = some (decide (i = j)) := rfl
@[simp] theorem eqW_bl (i j : Bool) : eqW (.bl i) (.bl j) = some (decide (i = j)) := rfl
@[simp] theorem eqW_non : eqW .non .non = some true := rfl
@[simp] theorem eqW_is (i : Int) (j : Str) : eqW (.int i) (.str j) = some false := rfl
@[simp] theorem eqW_si (i : Int) (j : Str) : eqW (.str j) (.int i) = some false := rfl
@[simp] theorem eqW_sn (j : Str) : eqW (.str j) .non = some false := rfl
@[simp] theorem eqW_in (j : Int) : eqW (.int j) .non = some false := rfl
theorem eqF_ok {n : Bool} : OpF (eqD n) (eqF n) := by
  intro x y z M Q h q
  unfold eqF eqW at h
  unfold eqD
  cases e : eqS x y with
  | some c => rw [e] at h; cases h; exact q
  | none =>
    rw [e] at h
    dsimp only at h
    split at h
    · rename_i a b ea eb
      by_cases hs : (SeqAt.shaped a && SeqAt.shaped b) = true
      · rw [if_pos hs] at h
        rw [Bool.and_eq_true] at hs
        cases h
        exact ⟨a, b, ea, eb, hs.1, hs.2, q⟩
      · rw [if_neg hs] at h; cases h
    · cases h
@[simp] def isNF (n : Bool) : D → D → Option D
  | x, .non => some (.bl (xorB n (isNonD x)))
  | _, _ => none
@[simp] theorem isNonD_non : isNonD .non = true := rfl
@[simp] theorem isNonD_int (i) : isNonD (.int i) = false := rfl
@[simp] theorem isNonD_str (i) : isNonD (.str i) = false := rfl
@[simp] theorem isNonD_bl (i) : isNonD (.bl i) = false := rfl
@[simp] theorem isNonD_tup (i) : isNonD (.tup i) = false := rfl
@[simp] theorem isNonD_lst (i) : isNonD (.lst i) = false := rfl
@[simp] theorem isNonD_dic (i) : isNonD (.dic i) = false := rfl
@[simp] theorem isNonD_obj (i f) : isNonD (.obj i f) = false := rfl
theorem isNF_ok {n : Bool} : OpF (isND n) (isNF n) := by
  intro x y z M Q h q
  cases y <;> first | (cases h; done) | (cases h; exact ⟨rfl, q⟩)
/-- in -/
def scals : List D → Option (List V)
  | [] => some []
  | d :: ds => match OD.scal d, scals ds with
    | some v, some vs => some (v :: vs)
    | _, _ => none
theorem scals_map : ∀ {ys : List D} {vs : List V}, scals ys = some vs → ys.map OD.scal = vs.map some := by
  intro ys
  induction ys with
  | nil => intro vs h; cases h; rfl
  | cons y ys ih =>
    intro vs h
    unfold scals at h
    split at h
    · rename_i v ws e1 e2
      cases h
      rw [List.map_cons, List.map_cons, e1, ih e2]
    · cases h
def inW (x : D) : D → Option Bool
  | .dic kvs => (keyD x).map fun k => (lookD kvs k).isSome
  | .lst ys => (match OD.scal x, scals ys with | some v, some vs => some (inV v vs) | _, _ => none)
  | .tup ys => (match OD.scal x, scals ys with | some v, some vs => some (inV v vs) | _, _ => none)
  | _ => none
@[simp] def inF (n : Bool) (x y : D) : Option D := (inW x y).map fun c => .bl (xorB n c)
theorem inF_ok {n : Bool} : OpF (inD n) (inF n) := by
  intro x y z M Q h q
  unfold inF at h
  cases e : inW x y with
  | none => rw [e] at h; cases h
  | some c =>
    rw [e] at h
    cases h
    unfold inW at e
    cases y with
    | dic kvs =>
      cases ek : keyD x with
      | none => rw [ek] at e; cases e
      | some k => rw [ek] at e; cases e; exact ⟨k, ek, q⟩
    | lst ys =>
      dsimp only at e
      split at e
      · rename_i v vs e1 e2; cases e; exact ⟨v, vs, e1, scals_map e2, q⟩
      · cases e
    | tup ys =>
      dsimp only at e
      split at e
      · rename_i v vs e1 e2; cases e; exact ⟨v, vs, e1, scals_map e2, q⟩
      · cases e
    | _ => cases e
/-- x[i] -/
@[simp] noncomputable def ixF : D → D → Option D
  | .lst xs, .int i => atI xs i
  | .tup xs, .int i => atI xs i
  | .str z, .int i => cif (z.length ≤ 16777216) ((atI z.cps.toList i).map fun c => .str ⟨#[c]⟩) (none)
  | .dic kvs, .int i => lookD kvs (.inl i)
  | .dic kvs, .str x => lookD kvs (.inr x)
  | _, _ => none
theorem ixF_ok : OpF ixD ixF := by
  intro x y z M Q h q
  cases x with
  | lst xs => cases y <;> first | (cases h; done) | exact ⟨z, h, q⟩
  | tup xs => cases y <;> first | (cases h; done) | exact ⟨z, h, q⟩
  | str s =>
    cases y with
    | int i =>
      replace h : (cif (s.length ≤ 16777216) ((atI s.cps.toList i).map fun c => D.str ⟨#[c]⟩) (none)) = some z := h
      by_cases hz : s.length ≤ 16777216
      · rw [cif_pos hz] at h
        cases e : atI s.cps.toList i with
        | none => rw [e] at h; cases h
        | some c => rw [e] at h; cases h; exact ⟨hz, c, e, q⟩
      · rw [cif_neg hz] at h; cases h
    | _ => cases h
  | dic kvs => cases y <;> first | (cases h; done) | exact ⟨z, h, q⟩
  | _ => cases h
/-! ### built-in functions -/
def oneF (f : D → Option D) : List D → Option D
  | [d] => f d
  | _ => none
def twoF (f : D → D → Option D) : List D → Option D
  | [d, e] => f d e
  | _ => none
@[simp] theorem oneF_1 (f : D → Option D) (d : D) : oneF f [d] = f d := rfl
@[simp] theorem twoF_2 (f : D → D → Option D) (d e : D) : twoF f [d, e] = f d e := rfl
theorem oneF_ok {f : D → Option D} {r : D → Mem → DK → Prop} (h : ∀ d z M Q, f d = some z → Q z M → r d M Q) : RcF (oneD r) (oneF f) := by
  intro ws z M Q e q
  match ws with
  | [d] => exact h d z M Q e q
  | [] => cases e
  | _ :: _ :: _ => cases e
theorem twoF_ok {f : D → D → Option D} {r : D → D → Mem → DK → Prop} (h : ∀ d d' z M Q, f d d' = some z → Q z M → r d d' M Q) : RcF (twoD r) (twoF f) := by
  intro ws z M Q e q
  match ws with
  | [d, d'] => exact h d d' z M Q e q
  | [] => cases e
  | [_] => cases e
  | _ :: _ :: _ :: _ => cases e
@[simp] noncomputable def len1 : D → Option D
  | .lst xs => some (.int xs.length)
  | .tup xs => some (.int xs.length)
  | .str z => cif (z.length ≤ 16777216) (some (.int z.length)) (none)
  | .dic kvs => some (.int kvs.length)
  | _ => none
noncomputable abbrev lenF := oneF len1
theorem lenF_ok : RcF lenD lenF := oneF_ok fun d z M Q h q => by
  cases d <;> first
    | (cases h; done)
    | (cases h; exact q)
    | (obtain ⟨hz, rfl⟩ := cif_inv h; exact ⟨hz, q⟩)
@[simp] def abs1 : D → Option D
  | .int i => some (.int (if i < 0 then -i else i))
  | _ => none
abbrev absF := oneF abs1
theorem absF_ok : RcF absD absF := oneF_ok fun d z M Q h q => by
  cases d <;> first | (cases h; done) | (cases h; exact q)
@[simp] def int1 : D → Option D
  | .int i => some (.int i)
  | .bl k => some (.int (if k then 1 else 0))
  | _ => none
abbrev intF := oneF int1
theorem intF_ok : RcF intD intF := oneF_ok fun d z M Q h q => by
  cases d <;> first | (cases h; done) | (cases h; exact q)
@[simp] def max2 : D → D → Option D
  | .int i, .int j => some (.int (if j > i then j else i))
  | _, _ => none
@[simp] def min2 : D → D → Option D
  | .int i, .int j => some (.int (if j < i then j else i))
  | _, _ => none
abbrev max2F := twoF max2
abbrev min2F := twoF min2
theorem max2F_ok : RcF max2D max2F := twoF_ok fun d d' z M Q h q => by
  cases d <;> cases d' <;> first | (cases h; done) | (cases h; exact q)
theorem min2F_ok : RcF min2D min2F := twoF_ok fun d d' z M Q h q => by
  cases d <;> cases d' <;> first | (cases h; done) | (cases h; exact q)
/-- rows of ints, of bools -/
def intsF : List D → Option (List Int)
  | [] => some []
  | .int i :: ds => (intsF ds).map (i :: ·)
  | _ => none
def blsF : List D → Option (List Bool)
  | [] => some []
  | .bl i :: ds => (blsF ds).map (i :: ·)
  | _ => none
@[simp] theorem intsF_map (ns : List Int) : intsF (ns.map .int) = some ns := by
  induction ns with
  | nil => rfl
  | cons n ns ih => show (intsF (ns.map .int)).map (n :: ·) = _; rw [ih]; rfl
@[simp] theorem blsF_map (ns : List Bool) : blsF (ns.map .bl) = some ns := by
  induction ns with
  | nil => rfl
  | cons n ns ih => show (blsF (ns.map .bl)).map (n :: ·) = _; rw [ih]; rfl
theorem intsF_inv : ∀ {ds : List D} {ns : List Int}, intsF ds = some ns → ds = ns.map .int := by
  intro ds
  induction ds with
  | nil => intro ns h; cases h; rfl
  | cons d ds ih =>
    intro ns h
    cases d with
    | int i =>
      replace h : (intsF ds).map (i :: ·) = some ns := h
      cases e : intsF ds with
      | none => rw [e] at h; cases h
      | some ms => rw [e] at h; cases h; rw [ih e]; rfl
    | _ => cases h
theorem blsF_inv : ∀ {ds : List D} {ns : List Bool}, blsF ds = some ns → ds = ns.map .bl := by
  intro ds
  induction ds with
  | nil => intro ns h; cases h; rfl
  | cons d ds ih =>
    intro ns h
    cases d with
    | bl i =>
      replace h : (blsF ds).map (i :: ·) = some ns := h
      cases e : blsF ds with
      | none => rw [e] at h; cases h
      | some ms => rw [e] at h; cases h; rw [ih e]; rfl
    | _ => cases h
@[simp] def sum1 : D → Option D
  | .lst xs => (intsF xs).map fun ns => .int ns.sum
  | _ => none
abbrev sumF := oneF sum1
theorem sumF_ok : RcF sumD sumF := oneF_ok fun d z M Q h q => by
  cases d with
  | lst xs =>
    replace h : (intsF xs).map (fun ns => D.int ns.sum) = some z := h
    cases e : intsF xs with
    | none => rw [e] at h; cases h
    | some ns => rw [e] at h; cases h; exact ⟨ns, intsF_inv e, q⟩
  | _ => cases h
@[simp] def all1 : D → Option D
  | .lst xs => (blsF xs).map fun ns => .bl (ns.all _root_.id)
  | _ => none
abbrev allF := oneF all1
theorem allF_ok : RcF allD allF := oneF_ok fun d z M Q h q => by
  cases d with
  | lst xs =>
    replace h : (blsF xs).map (fun ns => D.bl (ns.all _root_.id)) = some z := h
    cases e : blsF xs with
    | none => rw [e] at h; cases h
    | some ns => rw [e] at h; cases h; exact ⟨ns, blsF_inv e, q⟩
  | _ => cases h
def maxI : List Int → Int
  | [] => 0
  | x :: r => r.foldl max x
def minI : List Int → Int
  | [] => 0
  | x :: r => r.foldl min x
theorem foldl_max : ∀ (r : List Int) (x m : Int), m ∈ x :: r → (∀ y ∈ x :: r, y ≤ m) → r.foldl max x = m := by
  intro r
  induction r with
  | nil => intro x m h _; simpa using (by simpa using h : m = x).symm
  | cons y r ih =>
    intro x m h hm
    rw [List.foldl_cons]
    have hx := hm x (by simp)
    have hy := hm y (by simp)
    refine ih (max x y) m ?_ fun z hz => ?_
    · rcases List.mem_cons.mp h with rfl | h
      · rw [Int.max_eq_left hy]; simp
      · rcases List.mem_cons.mp h with rfl | h
        · rw [Int.max_eq_right hx]; simp
        · exact List.mem_cons_of_mem _ h
    · rcases List.mem_cons.mp hz with rfl | hz
      · omega
      · exact hm z (by simp [hz])
theorem foldl_min : ∀ (r : List Int) (x m : Int), m ∈ x :: r → (∀ y ∈ x :: r, m ≤ y) → r.foldl min x = m := by
  intro r
  induction r with
  | nil => intro x m h _; simpa using (by simpa using h : m = x).symm
  | cons y r ih =>
    intro x m h hm
    rw [List.foldl_cons]
    have hx := hm x (by simp)
    have hy := hm y (by simp)
    refine ih (min x y) m ?_ fun z hz => ?_
    · rcases List.mem_cons.mp h with rfl | h
      · rw [Int.min_eq_left hy]; simp
      · rcases List.mem_cons.mp h with rfl | h
        · rw [Int.min_eq_right hx]; simp
        · exact List.mem_cons_of_mem _ h
    · rcases List.mem_cons.mp hz with rfl | hz
      · omega
      · exact hm z (by simp [hz])
@[simp] def maxL1 : D → Option D
  | .lst xs => (intsF xs).bind fun ns => if 0 < ns.length then some (.int (maxI ns)) else none
  | _ => none
abbrev maxLF := oneF maxL1
theorem maxLF_ok : RcF maxLD maxLF := oneF_ok fun d z M Q h q => by
  cases d with
  | lst xs =>
    replace h : (intsF xs).bind (fun ns => if 0 < ns.length then some (D.int (maxI ns)) else none) = some z := h
    cases e : intsF xs with
    | none => rw [e] at h; cases h
    | some ns =>
      rw [e] at h
      replace h : (if 0 < ns.length then some (D.int (maxI ns)) else none) = some z := h
      by_cases hz : 0 < ns.length
      · rw [if_pos hz] at h
        cases h
        refine ⟨ns, intsF_inv e, hz, fun m h1 h2 => ?_⟩
        cases ns with
        | nil => cases h1
        | cons x r => rw [show maxI (x :: r) = m from foldl_max r x m h1 h2] at q; exact q
      · rw [if_neg hz] at h; cases h
  | _ => cases h
@[simp] def minL1 : D → Option D
  | .lst xs => (intsF xs).bind fun ns => if 0 < ns.length then some (.int (minI ns)) else none
  | _ => none
abbrev minLF := oneF minL1
theorem minLF_ok : RcF minLD minLF := oneF_ok fun d z M Q h q => by
  cases d with
  | lst xs =>
    replace h : (intsF xs).bind (fun ns => if 0 < ns.length then some (D.int (minI ns)) else none) = some z := h
    cases e : intsF xs with
    | none => rw [e] at h; cases h
    | some ns =>
      rw [e] at h
      replace h : (if 0 < ns.length then some (D.int (minI ns)) else none) = some z := h
      by_cases hz : 0 < ns.length
      · rw [if_pos hz] at h
        cases h
        refine ⟨ns, intsF_inv e, hz, fun m h1 h2 => ?_⟩
        cases ns with
        | nil => cases h1
        | cons x r => rw [show minI (x :: r) = m from foldl_min r x m h1 h2] at q; exact q
      · rw [if_neg hz] at h; cases h
  | _ => cases h
@[simp] def tuple1 : D → Option D
  | .lst xs => some (.tup xs)
  | .tup xs => some (.tup xs)
  | _ => none
abbrev tupleF := oneF tuple1
theorem tupleF_ok : RcF tupleD tupleF := oneF_ok fun d z M Q h q => by
  cases d <;> first | (cases h; done) | (cases h; exact q)
@[simp] def list1 : D → Option D
  | .lst xs => some (.lst xs)
  | .tup xs => some (.lst xs)
  | _ => none
abbrev listF := oneF list1
theorem listF_ok : RcF (listD false) listF := oneF_ok fun d z M Q h q => by
  cases d <;> first | (cases h; done) | (cases h; exact q)
@[simp] def listN : List D → Option N
  | [.lst xs] => some (.lst xs)
  | [.tup xs] => some (.lst xs)
  | _ => none
theorem listN_ok : ∀ ws n M Q, listN ws = some n → al true n M Q → listD true ws M Q := by
  intro ws n M Q h q
  unfold listN at h
  split at h <;> cases h <;> exact q
theorem listN_k : ∀ ws n, listN ws = some n → okN n = true := by
  intro ws n h
  unfold listN at h
  split at h <;> cases h <;> rfl
@[simp] def listK1 : D → Option D
  | .dic kvs => some (.lst (kvs.map fun kv => keyV kv.1))
  | _ => none
abbrev listKF := oneF listK1
theorem listKF_ok : RcF (listKD false) listKF := oneF_ok fun d z M Q h q => by
  cases d <;> first | (cases h; done) | (cases h; exact q)
@[simp] def isi1 : D → D → Option D
  | d, .ty n => (match tyD d with | some t => (kitB t n).map D.bl | none => none)
  | _, _ => none
abbrev isiF := twoF isi1
theorem isiF_ok : RcF isiD isiF := twoF_ok fun d d' z M Q h q => by
  cases d' with
  | ty n =>
    unfold isi1 at h
    dsimp only at h
    cases e : tyD d with
    | none => rw [e] at h; cases h
    | some t =>
      rw [e] at h
      dsimp only at h
      cases e2 : kitB t n with
      | none => rw [e2] at h; cases h
      | some b => rw [e2] at h; cases h; exact ⟨t, b, rfl, e2, q⟩
  | _ => unfold isi1 at h; cases h
@[simp] def isiO1 (rel : Value → Addr → Option Bool) : D → D → Option D
  | .obj C _, .cls A => (rel (.ref C) A).map D.bl
  | d, .cls A => (match tyD d with | some t => (rel (.type t) A).map D.bl | none => none)
  | _, _ => none
abbrev isiOF (rel : Value → Addr → Option Bool) := twoF (isiO1 rel)
theorem isiOF_ok {rel : Value → Addr → Option Bool} : RcF (isiOD rel) (isiOF rel) := twoF_ok fun d d' z M Q h q => by
  cases d' with
  | cls A =>
    cases d with
    | obj C fs =>
      replace h : (rel (.ref C) A).map D.bl = some z := h
      cases e2 : rel (.ref C) A with
      | none => rw [e2] at h; cases h
      | some b => rw [e2] at h; cases h; exact ⟨b, e2, q⟩
    | _ =>
      first
        | (cases h; done)
        | (obtain ⟨b, e, rfl⟩ := Option.map_eq_some_iff.mp h; exact ⟨_, b, rfl, e, q⟩)
  | _ => cases d <;> cases h
end F

/-! F10: dicts walked; objects handed out; objects made. -/
namespace OD
open PySem PySem.Spec L2
def lokN (td : Mem → Prop) (p : Addr) (od : Obj) (ws : List (Key × V)) (kvs : List (Key × D)) : Mem → Prop := fun M' => ∃ k : Nat, M'[k]? = some (p, .lok od ws kvs) ∧ td (M'.set k (p, .dic kvs))
/-- for as long as t runs a dict is locked -/
def dLockSN (td : DS) : DS := fun Dd sl M => ∃ (p : Addr) (kvs : List (Key × D)) (k : Nat), M[k]? = some (p, .dic kvs) ∧ ∀ (od : Obj) (ws : List (Key × V)),
  td { nx := fun sl' => lokN (Dd.nx sl') p od ws kvs, rt := fun d => lokN (Dd.rt d) p od ws kvs, bk := fun sl' => lokN (Dd.bk sl') p od ws kvs, ct := fun sl' => lokN (Dd.ct sl') p od ws kvs, ex := fun _ => NoX } sl (M.set k (p, .lok od ws kvs))
def dLockEN (td : DE) : DE := fun sl M ED Q => ∃ (p : Addr) (kvs : List (Key × D)) (k : Nat), M[k]? = some (p, .dic kvs) ∧ ∀ (od : Obj) (ws : List (Key × V)), td sl (M.set k (p, .lok od ws kvs)) NoX fun d => lokN (Q d) p od ws kvs
section
variable {X : Cx} {E : L2.St → XK} {K : PySem.W.Frag}
theorem sim_lockSN {t : TS} {td : DS} (s : OD.SimS K E t td) : OD.SimS K E (tLock t) (dLockSN td) := by
  intro S0 sl M σ H Dd Dn ok l h
  obtain ⟨p, kvs, k, e, h⟩ := h
  obtain ⟨ws, h1, h2⟩ := ok.mem.at_ _ (List.mem_of_getElem? e)
  refine ⟨p, .dK ws, h1, True.intro, fun od => ?_⟩
  obtain ⟨m1, x1⟩ := lock_in (od := od) ok.mem e h2
  refine s S0 sl _ σ _ _ _ (ok.ext m1 x1) ⟨fun sl' M' σ' H' k' x' q => ?_, fun d M' v H' m' x' r q => ?_, fun sl' M' σ' H' k' x' q => ?_, fun sl' M' σ' H' k' x' q => ?_, fun _ _ _ _ _ _ => XL.no⟩ (h od ws)
  · obtain ⟨j, q1, q2⟩ := q
    obtain ⟨g1, g2, g3⟩ := lock_out k'.mem q1
    exact ⟨g1, l.nx sl' _ σ' _ (k'.ext g2 g3) ((x1.trans x').trans g3) q2⟩
  · obtain ⟨j, q1, q2⟩ := q
    obtain ⟨g1, g2, g3⟩ := lock_out m' q1
    exact ⟨g1, l.rt d _ v _ g2 ((x1.trans x').trans g3) (r.ext g3) q2⟩
  · obtain ⟨j, q1, q2⟩ := q
    obtain ⟨g1, g2, g3⟩ := lock_out k'.mem q1
    exact ⟨g1, l.bk sl' _ σ' _ (k'.ext g2 g3) ((x1.trans x').trans g3) q2⟩
  · obtain ⟨j, q1, q2⟩ := q
    obtain ⟨g1, g2, g3⟩ := lock_out k'.mem q1
    exact ⟨g1, l.ct sl' _ σ' _ (k'.ext g2 g3) ((x1.trans x').trans g3) q2⟩
theorem sim_lockEN {t : TE} {td : DE} (s : OD.SimE K E t td) : OD.SimE K E (tLockE t) (dLockEN td) := by
  intro S0 sl M σ H Q QD ED ok xl h l
  obtain ⟨p, kvs, k, e, h⟩ := h
  obtain ⟨ws, h1, h2⟩ := ok.mem.at_ _ (List.mem_of_getElem? e)
  refine ⟨p, .dK ws, h1, True.intro, fun od => ?_⟩
  obtain ⟨m1, x1⟩ := lock_in (od := od) ok.mem e h2
  refine s S0 sl _ σ _ _ _ NoX (ok.ext m1 x1) XL.no (h od ws) fun d M' v H' m' x' r q => ?_
  obtain ⟨j, q1, q2⟩ := q
  obtain ⟨g1, g2, g3⟩ := lock_out m' q1
  exact ⟨g1, l d _ v _ g2 ((x1.trans x').trans g3) (r.ext g3) q2⟩
theorem ds_lockN {st : Stmt} {td : DS} (h : DSx X E st td) : DSx X E st (dLockSN td) := by
  obtain ⟨t, p, s⟩ := h
  exact ⟨_, ps_lock p, sim_lockSN s⟩
theorem de_lockN {e : Expr} {td : DE} (h : DEx X E e td) : DEx X E e (dLockEN td) := by
  obtain ⟨t, p, s⟩ := h
  exact ⟨_, pe_lock p, sim_lockEN s⟩
def diKeysN (da : DE) : DI := fun sl M ED RD => da sl M ED fun x M1 => ∃ (p : Addr) (k : Nat) (od : Obj) (ws : List (Key × V)) (kvs : List (Key × D)), x = .ref p ∧ M1[k]? = some (p, .lok od ws kvs) ∧ RD (itKeys kvs fun M' => (p, N.lok od ws kvs) ∈ M') M1
theorem di_keysN {tg e : Expr} {da : DE} (h : DEx X E e da) : DIx X E tg e (diKeysN da) := by
  obtain ⟨t, p, s⟩ := h
  refine ⟨_, pi_keys p, fun S0 sl M σ H R RD ED k xl hd l => s S0 sl M σ H _ _ ED k xl hd fun d M1 v H1 m1 x1 r1 q1 => ?_⟩
  obtain ⟨a, j, od, ws, kvs, rfl, e, q⟩ := q1
  cases r1
  obtain ⟨h1, h2⟩ := m1.at_ _ (List.mem_of_getElem? e)
  refine ⟨a, od, rfl, .inl ⟨ws, h1, l _ M1 _ H1 m1 x1 (fun S1 M' H' mk m x g => ?_) q⟩⟩
  obtain ⟨g1, g2⟩ := m.at_ _ g
  have hl : ws.length = kvs.length := g2.length
  refine ⟨fun i hi => ?_, g1, by rw [hl]; exact Nat.le_refl _⟩
  have hi' : i < kvs.length := hi
  refine ⟨⟨g1, by rw [hl]; exact hi'⟩, fun y H'' hy => ?_⟩
  obtain ⟨rfl, kk, vv, e1, rfl⟩ := hy
  refine ⟨m, .refl _ _, ?_⟩
  have e2 := congrArg (fun z => z[i]?) (RepsK.at_ g2)
  simp only [List.getElem?_map] at e2
  rw [e1] at e2
  show Rep X.K _ _ _ (((kvs[i]?).map fun kv => keyV kv.1).getD .non)
  rw [List.getElem?_eq_getElem hi'] at e2 ⊢
  have e3 : kk = (kvs[i]).1 := by simpa using e2
  show Rep _ _ _ _ (keyV (kvs[i]).1)
  rw [← e3]
  exact rep_key kk
end
end OD
namespace F
open PySem PySem.Spec L2 OD
section
variable {fa fb fc : FE} {oa ob oc : FO} {da db dc : DE} {ta tb : FT} {ua ub : DT} {as : FA} {dr : DA} {fi : FI} {di : DI} {np : Nat} {s1 s2 : FS} {t1 t2 : DS}
/-- no slot but i holds a dict walked as i -/
def noLok (i : Nat) : Nat → Sl → Bool
  | _, [] => true
  | j, o :: s => (match o with | some (.lok a _) => a != i || j == i | _ => true) && noLok i (j + 1) s
theorem noLok_at {i : Nat} : ∀ {s : Sl} {k : Nat}, noLok i k s = true → ∀ j a kvs, s[j]? = some (some (.lok a kvs)) → k + j ≠ i → a ≠ i := by
  intro s
  induction s with
  | nil => intro k _ j a kvs e; cases e
  | cons o s ih =>
    intro k h j a kvs e n
    unfold noLok at h
    rw [Bool.and_eq_true] at h
    cases j with
    | zero =>
      replace e : some o = some (some (Sv.lok a kvs)) := e
      cases e
      have h1 := h.1
      dsimp only at h1
      rw [Bool.or_eq_true] at h1
      rcases h1 with h1 | h1
      · exact bne_iff_ne.mp h1
      · exact absurd (beq_iff_eq.mp h1) n
    | succ j => exact ih h.2 j a kvs e (by omega)
@[simp] theorem noLok_nil (i k) : noLok i k [] = true := rfl
@[simp] theorem noLok_none (i k s) : noLok i k (none :: s) = noLok i (k + 1) s := by simp [noLok]
@[simp] theorem noLok_im (i k s d) : noLok i k (some (.im d) :: s) = noLok i (k + 1) s := by simp [noLok]
@[simp] theorem noLok_lst (i k s d) : noLok i k (some (.lst d) :: s) = noLok i (k + 1) s := by simp [noLok]
@[simp] theorem noLok_dic (i k s d) : noLok i k (some (.dic d) :: s) = noLok i (k + 1) s := by simp [noLok]
@[simp] theorem noLok_ins (i k s C d) : noLok i k (some (.ins C d) :: s) = noLok i (k + 1) s := by simp [noLok]
@[simp] theorem noLok_pot (i k s d) : noLok i k (some (.pot d) :: s) = noLok i (k + 1) s := by simp [noLok]
@[simp] theorem noLok_lok (i k s a d) : noLok i k (some (.lok a d) :: s) = ((a != i || k == i) && noLok i (k + 1) s) := rfl
theorem lk_wf {lk : Lk} {i : Nat} {x : Addr × N} : ∀ a e, (if a = i then some x else lk.tg a) = some e → e ∈ x :: lk.fr := fun a e h => by
  by_cases z : a = i
  · rw [if_pos z] at h; cases h; simp
  · rw [if_neg z] at h; exact List.mem_cons_of_mem _ (lk.wf a e h)
/-- the relation when a dict is locked -/
theorem Rel.lock {c : Cz} {fs : Sl} {sl : Slots} {M : Mem} (r : Rel c fs sl M) {i : Nat} {kvs : List (Key × D)} (e : fs[i]? = some (some (.dic kvs))) (nl : noLok i 0 fs = true) : ∃ p k, sl[i]? = some (some (.ref p)) ∧ M[k]? = some (p, .dic kvs) ∧
    ∀ od ws, Rel { c with lk := ⟨(p, .lok od ws kvs) :: c.lk.fr, fun b => if b = i then some (p, .lok od ws kvs) else c.lk.tg b, lk_wf⟩ } (fs.set i (some (.lok i kvs))) sl (M.set k (p, .lok od ws kvs)) ∧
      ∀ w d fs' sl' M', isLok w = false → RelW { c with lk := ⟨(p, .lok od ws kvs) :: c.lk.fr, fun b => if b = i then some (p, .lok od ws kvs) else c.lk.tg b, lk_wf⟩ } fs' sl' M' w d → fs'[i]? = some (some (.lok i kvs)) → noLok i 0 fs' = true →
        ∃ k', M'[k']? = some (p, .lok od ws kvs) ∧ RelW c (fs'.set i (some (.dic kvs))) sl' (M'.set k' (p, .dic kvs)) w d := by
  have r0 := r
  obtain ⟨E, r⟩ := r
  obtain ⟨d, hd, p, rfl, ep⟩ := r.slt i _ e
  have kE : keys (E (i + 1)) = [p] := by rw [ep]; rfl
  obtain ⟨k, hk⟩ := List.getElem?_of_mem (r.sub (i + 1) (p, .dic kvs) (by rw [ep]; simp))
  have hil : i < fs.length := (List.getElem?_eq_some_iff.mp e).1
  refine ⟨p, k, hd, hk, fun od ws => ⟨?_, fun w d fs' sl' M' hw r' e' nl' => ?_⟩⟩
  · have hkey : keys (M.set k (p, .lok od ws kvs)) = keys M := keys_set hk
    have keep : ∀ e2 ∈ M, e2.1 ≠ p → e2 ∈ M.set k (p, .lok od ws kvs) := fun e2 hm np => by
      obtain ⟨t, ht⟩ := List.getElem?_of_mem hm
      have hne : k ≠ t := fun w => by rw [← w, hk] at ht; cases ht; exact np rfl
      exact List.mem_of_getElem? (by rw [List.getElem?_set_ne hne]; exact ht)
    have e0 : ∀ j, (if j = i + 1 then [] else E j) = [] ∨ (j ≠ i + 1 ∧ (if j = i + 1 then [] else E j) = E j) := fun j => by
      by_cases z : j = i + 1
      · exact .inl (by rw [if_pos z])
      · exact .inr ⟨z, by rw [if_neg z]⟩
    refine ⟨fun j => if j = i + 1 then [] else E j, by rw [hkey]; exact r.nd, by rw [List.length_set]; exact r.len, by rw [if_neg (by omega)]; exact r.tmp, fun j sv e2 => ?_, fun j e2 he => ?_, fun j => ?_, fun j k2 a n ha hb => ?_, fun j hj => ?_, fun j a hj ha => ?_, ?_, fun e2 he => ?_, fun e2 he j hj => ?_⟩
    · by_cases z : i = j
      · subst z
        rw [List.getElem?_set_self hil] at e2
        cases e2
        exact ⟨_, hd, by rw [if_pos rfl], p, od, ws, rfl, by show (if i = i then some _ else _) = _; rw [if_pos rfl]⟩
      · rw [List.getElem?_set_ne z] at e2
        obtain ⟨d', g1, g2⟩ := r.slt j sv e2
        refine ⟨d', g1, ?_⟩
        rw [if_neg (by omega)]
        cases sv with
        | lok a q =>
          obtain ⟨y1, p', od', ws', y2, y3⟩ := g2
          exact ⟨y1, p', od', ws', y2, by show (if a = i then some _ else _) = _; rw [if_neg (noLok_at nl j a q e2 (by omega))]; exact y3⟩
        | _ => exact g2
    · rcases e0 j with z | ⟨z1, z⟩ <;> rw [z] at he
      · cases he
      · exact keep e2 (r.sub j e2 he) fun w => r.dis j (i + 1) p z1 (List.mem_map.mpr ⟨e2, he, w⟩) (by rw [kE]; simp)
    · rcases e0 j with z | ⟨z1, z⟩ <;> rw [z]
      · exact List.nodup_nil
      · exact r.ndE j
    · rcases e0 j with z | ⟨z1, z⟩ <;> rw [z] at ha
      · cases ha
      · rcases e0 k2 with y | ⟨y1, y⟩ <;> rw [y] at hb
        · cases hb
        · exact r.dis j k2 a n ha hb
    · rcases e0 (j + 1) with z | ⟨z1, z⟩
      · exact .inl z
      · rw [z]; exact r.pin j hj
    · rcases e0 j with z | ⟨z1, z⟩ <;> rw [z] at ha
      · cases ha
      · exact r.frs j a hj ha
    · have hp := r.pre
      unfold Pre at hp ⊢
      rw [keys_take, hkey, ← keys_take]
      exact hp
    · rcases List.mem_cons.mp he with rfl | he
      · exact List.mem_of_getElem? (List.getElem?_set_self (List.getElem?_eq_some_iff.mp hk).1)
      · exact keep e2 (r.lks e2 he) fun w => r.lkd e2 he (i + 1) (by rw [kE, w]; simp)
    · rcases e0 j with z | ⟨z1, z⟩ <;> rw [z] at hj
      · cases hj
      · rcases List.mem_cons.mp he with rfl | he
        · exact r.dis j (i + 1) p z1 hj (by rw [kE]; simp)
        · exact r.lkd e2 he j hj
  · obtain ⟨E', r'⟩ := r'
    obtain ⟨d', hd', y1, p', od', ws', rfl, y3⟩ := r'.slt i _ e'
    have hp : p' = p := by
      replace y3 : (if i = i then some (p, N.lok od ws kvs) else c.lk.tg i) = some (p', _) := y3
      rw [if_pos rfl] at y3
      cases y3
      rfl
    subst hp
    have hm : (p', N.lok od ws kvs) ∈ M' := r'.lks _ (by simp)
    obtain ⟨k', hk'⟩ := List.getElem?_of_mem hm
    have hkey : keys (M'.set k' (p', .dic kvs)) = keys M' := keys_set hk'
    have pE : ∀ j, p' ∉ keys (E' j) := fun j => r'.lkd (p', .lok od ws kvs) (by simp) j
    have keep : ∀ e2 ∈ M', e2.1 ≠ p' → e2 ∈ M'.set k' (p', .dic kvs) := fun e2 hm np => by
      obtain ⟨t, ht⟩ := List.getElem?_of_mem hm
      have hne : k' ≠ t := fun w => by rw [← w, hk'] at ht; cases ht; exact np rfl
      exact List.mem_of_getElem? (by rw [List.getElem?_set_ne hne]; exact ht)
    have kk : keys [(p', N.dic kvs)] = [p'] := rfl
    refine ⟨k', hk', fun j => if j = i + 1 then [(p', .dic kvs)] else E' j, by rw [hkey]; exact r'.nd, by rw [List.length_set]; exact r'.len, by rw [if_neg (by omega)]; exact ent_lk (ent_nolk r'.tmp hw), fun j sv e2 => ?_, fun j e2 he => ?_, fun j => ?_, fun j k2 a n ha hb => ?_, fun j hj => ?_, fun j a hj ha => ?_, ?_, fun e2 he => ?_, fun e2 he j hj => ?_⟩
    · by_cases z : i = j
      · subst z
        rw [List.getElem?_set_self (List.getElem?_eq_some_iff.mp e').1] at e2
        cases e2
        exact ⟨_, hd', p', rfl, by rw [if_pos rfl]⟩
      · rw [List.getElem?_set_ne z] at e2
        obtain ⟨d', g1, g2⟩ := r'.slt j sv e2
        refine ⟨d', g1, ?_⟩
        rw [if_neg (by omega)]
        cases sv with
        | lok a q =>
          obtain ⟨y1, p2, od2, ws2, y2, y3⟩ := g2
          have ai : a ≠ i := noLok_at nl' j a q e2 (by omega)
          replace y3 : (if a = i then some (p', N.lok od ws kvs) else c.lk.tg a) = some (p2, _) := y3
          rw [if_neg ai] at y3
          exact ⟨y1, p2, od2, ws2, y2, y3⟩
        | _ => exact g2
    · by_cases z : j = i + 1
      · rw [if_pos z] at he; simp at he; rw [he]
        exact List.mem_of_getElem? (List.getElem?_set_self (List.getElem?_eq_some_iff.mp hk').1)
      · rw [if_neg z] at he
        exact keep e2 (r'.sub j e2 he) fun w => pE j (List.mem_map.mpr ⟨e2, he, w⟩)
    · by_cases z : j = i + 1
      · rw [if_pos z, kk]; simp
      · rw [if_neg z]; exact r'.ndE j
    · by_cases z : j = i + 1
      · rw [if_pos z, kk] at ha
        simp at ha
        rw [if_neg (by omega)] at hb
        exact pE k2 (ha ▸ hb)
      · rw [if_neg z] at ha
        by_cases y : k2 = i + 1
        · rw [if_pos y, kk] at hb
          simp at hb
          exact pE j (hb ▸ ha)
        · rw [if_neg y] at hb
          exact r'.dis j k2 a n ha hb
    · by_cases z : j + 1 = i + 1
      · have ji : j = i := by omega
        subst ji
        rw [if_pos rfl, kk]
        rcases r.pin j hj with h | h
        · rw [h] at kE; cases kE
        · exact .inr (kE ▸ h)
      · rw [if_neg z]; exact r'.pin j hj
    · by_cases z : j = i + 1
      · rw [if_pos z, kk] at ha
        simp at ha
        rw [ha]
        exact r.frs (i + 1) p' (by rw [← z]; exact hj) (by rw [kE]; simp)
      · rw [if_neg z] at ha; exact r'.frs j a hj ha
    · have hp := r'.pre
      unfold Pre at hp ⊢
      rw [keys_take, hkey, ← keys_take]
      exact hp
    · refine keep e2 (r'.lks e2 (List.mem_cons_of_mem _ he)) fun w => ?_
      exact r.lkd e2 he (i + 1) (by rw [kE, w]; simp)
    · by_cases z : j = i + 1
      · rw [if_pos z, kk] at hj
        simp at hj
        exact r.lkd e2 he (i + 1) (by rw [kE, hj]; simp)
      · rw [if_neg z] at hj; exact r'.lkd e2 (List.mem_cons_of_mem _ he) j hj
end
end F

/-! F11: dicts walked; objects handed out; objects made; == of own classes. -/
namespace OD
open PySem PySem.Spec L2
/-- an object is made, by an __init__ that is handed data alone -/
def dMakeN (C : Addr) (F : FD) (o : Bool) (dr : DA) : DE := fun sl M ED Q => dr sl M ED fun ds M1 => ∀ x dx, x ∉ keys M1 →
  F (.ref x :: ds) [(x, .ins C dx [])] (fun _ _ _ => False) fun d Mc => d = .non ∧ frzD (!o) (.ref x) (putM [M1.length] (M1 ++ [(x, .ins C dx [])]) Mc) Q
section
variable {X : Cx} {E : L2.St → XK} {K : PySem.W.Frag} {a : Expr} {es : List Expr} {pos p : Pos} {dr : DA} {F : FD} {x : Str} {ps : List Str} {k : Nat}
theorem make_N {C : Addr} {o : Bool} {sl : Slots} {M : Mem} {ED : XD} {Q : DK} (h : dMakeN C F o dr sl M ED Q) (mono : ∀ (P P' : List D → Mem → Prop), (∀ ds M, P ds M → P' ds M) → dr sl M ED P → dr sl M ED P') : dMake C F [] o dr sl M ED Q := by
  refine mono _ _ (fun ds M1 h => ⟨rfl, fun x dx hx => ?_⟩) h
  have e : sel [M1.length] (M1 ++ [(x, N.ins C dx [])]) = [(x, .ins C dx [])] := sel_new (ks := []) rfl
  rw [e]
  exact h x dx hx
end
end OD
namespace F
open PySem PySem.Spec L2 OD
section
variable {fa fb fc : FE} {oa ob oc : FO} {da db dc : DE} {ta tb : FT} {ua ub : DT} {as : FA} {dr : DA} {fi : FI} {di : DI} {np : Nat} {s1 s2 : FS} {t1 t2 : DS}
/-! ### dicts walked -/
def keysL (kvs : List (Key × D)) : List D := kvs.map fun kv => keyV kv.1
open Classical in
noncomputable def unl (i : Nat) (kvs : List (Key × D)) (s : Sl) : Option Sl := if s[i]? = some (some (.lok i kvs)) ∧ noLok i 0 s = true then some (s.set i (some (.dic kvs))) else none
theorem unl_ok {i : Nat} {kvs : List (Key × D)} {s : Sl} (h : s[i]? = some (some (.lok i kvs))) (h2 : noLok i 0 s = true) : unl i kvs s = some (s.set i (some (.dic kvs))) := if_pos ⟨h, h2⟩
theorem unl_inv {i : Nat} {kvs : List (Key × D)} {s s' : Sl} (h : unl i kvs s = some s') : s[i]? = some (some (.lok i kvs)) ∧ noLok i 0 s = true ∧ s' = s.set i (some (.dic kvs)) := by
  unfold unl at h
  by_cases hp : s[i]? = some (some (.lok i kvs)) ∧ noLok i 0 s = true
  · rw [if_pos hp] at h; cases h; exact ⟨hp.1, hp.2, rfl⟩
  · rw [if_neg hp] at h; cases h
noncomputable def unlO (i : Nat) (kvs : List (Key × D)) : O → O
  | .nx s => (match unl i kvs s with | some s => .nx s | none => .bad)
  | .rt w s => (match w, unl i kvs s with | .im d, some s => .rt (.im d) s | _, _ => .bad)
  | _ => .bad
@[simp] theorem unlO_nx (i kvs s) : unlO i kvs (.nx s) = (match unl i kvs s with | some s => .nx s | none => .bad) := rfl
@[simp] theorem unlO_rt (i kvs d s) : unlO i kvs (.rt (.im d) s) = (match unl i kvs s with | some s => .rt (.im d) s | none => .bad) := by
  show (match Sv.im d, unl i kvs s with | .im d, some s => O.rt (.im d) s | _, _ => .bad) = _
  cases unl i kvs s <;> rfl
@[simp] noncomputable def fForK (i : Nat) (tg : FG) (body : FS) (s : Sl) : O := match s[i]? with
  | some (some (.dic kvs)) => if noLok i 0 s = true then unlO i kvs (forL tg body (keysL kvs) (s.set i (some (.lok i kvs)))) else .bad
  | _ => .bad
theorem itKeys_ok {c : Cz} {p : Addr} {od : Obj} {ws : List (Key × V)} {kvs : List (Key × D)} (h : (p, N.lok od ws kvs) ∈ c.lk.fr) : ItOk1 c (itKeys kvs fun M' => (p, N.lok od ws kvs) ∈ M') (keysL kvs) :=
  ⟨by show kvs.length = _; unfold keysL; rw [List.length_map], fun i hi => by
    unfold keysL at hi ⊢
    rw [List.length_map] at hi
    rw [List.getElem_map]
    show ((kvs[i]?).map fun kv => keyV kv.1).getD .non = _
    rw [List.getElem?_eq_getElem hi]
    rfl, fun fs sl M r => by obtain ⟨E, r⟩ := r; exact r.lks _ h⟩
theorem s_forK {i : Nat} {tg : FG} {dg : DG} {vs : List Nat} (hg : SimG vs tg dg) (hb : SimS np s1 t1) : SimS np (fForK i tg s1) (dLockSN (dFor (diKeysN (dVar i)) dg t1)) := by
  intro c hc Dd fs sl M r q
  unfold fForK at q
  split at q
  · rename_i kvs e
    by_cases nl : noLok i 0 fs = true
    · rw [if_pos nl] at q
      obtain ⟨p, k, h1, h2, h3⟩ := r.lock e nl
      refine ⟨p, kvs, k, h2, fun od ws => ?_⟩
      obtain ⟨g1, g2⟩ := h3 od ws
      refine ⟨_, h1, p, k, od, ws, kvs, rfl, List.getElem?_set_self (List.getElem?_eq_some_iff.mp h2).1, ?_⟩
      refine for_core (np := np) (c := { c with lk := ⟨(p, .lok od ws kvs) :: c.lk.fr, fun b => if b = i then some (p, .lok od ws kvs) else c.lk.tg b, lk_wf⟩ }) hg hb hc (itKeys_ok (List.mem_cons_self ..)) g1 ?_
      cases eo : forL tg s1 (keysL kvs) (fs.set i (some (.lok i kvs))) with
      | nx s' =>
        rw [eo, unlO_nx] at q
        cases eu : unl i kvs s' with
        | none => rw [eu] at q; exact q.elim
        | some s2 =>
          rw [eu] at q
          obtain ⟨u1, u2, rfl⟩ := unl_inv eu
          intro sl' M' r'
          obtain ⟨k', k1, k2⟩ := g2 _ _ s' sl' M' rfl r' u1 u2
          exact ⟨k', k1, q sl' _ k2⟩
      | rt w s' =>
        rw [eo] at q
        cases w with
        | im d =>
          rw [unlO_rt] at q
          cases eu : unl i kvs s' with
          | none => rw [eu] at q; exact q.elim
          | some s2 =>
            rw [eu] at q
            obtain ⟨u1, u2, rfl⟩ := unl_inv eu
            intro d' sl' M' r'
            obtain ⟨k', k1, k2⟩ := g2 _ _ s' sl' M' rfl r'.rel u1 u2
            obtain rfl := r'.eq
            exact ⟨k', k1, q _ sl' _ (k2.im _)⟩
        | _ => exact q.elim
      | bk s' => rw [eo] at q; exact q.elim
      | ct s' => rw [eo] at q; exact q.elim
      | ex cl f s' => rw [eo] at q; exact q.elim
      | bad => rw [eo] at q; exact q.elim
    · rw [if_neg nl] at q; exact q.elim
  · exact q.elim
@[simp] noncomputable def fLcK (i : Nat) (vs : List Nat) (tg : FG) (t : FT) (e : FE) (s : Sl) : R Sv := match s[i]? with
  | some (some (.dic kvs)) => if noLok i 0 s = true ∧ vs.all (free (s.set i (some (.lok i kvs)))) = true then (nox (lcL vs tg t e (keysL kvs) (s.set i (some (.lok i kvs))) [])).bind fun acc s2 => (match unl i kvs (restF (s.set i (some (.lok i kvs))) s2 vs) with | some s3 => .ok (.im (.lst acc)) s3 | none => .bad) else .bad
  | _ => .bad
theorem nox_bind {α : Type} {c : Cz} {sl : Slots} {ED : XD} {Q : DK} {r : R α} {f : α → Sl → R Sv} (q : PoE c sl ED Q ((nox r).bind f)) (h : ∀ a s, r = .ok a s → PoE c sl ED Q (f a s) → False) : False := by
  cases r with
  | ok a s => exact h a s rfl q
  | ex _ _ _ => exact q
  | bad => exact q
theorem s_lcK {i : Nat} {tg : FG} {dg : DG} {vs : List Nat} (hg : SimG vs tg dg) (ht : SimT ta ua) (he : SimE fa da) : SimE (fLcK i vs tg ta fa) (dLockEN (dLc false (diKeysN (dVar i)) vs dg ua da)) := by
  intro c fs sl M ED Q r q
  unfold fLcK at q
  split at q
  · rename_i kvs e
    by_cases nl : noLok i 0 fs = true ∧ vs.all (free (fs.set i (some (.lok i kvs)))) = true
    · rw [if_pos nl] at q
      obtain ⟨p, k, h1, h2, h3⟩ := r.lock e nl.1
      refine ⟨p, kvs, k, h2, fun od ws => ?_⟩
      obtain ⟨g1, g2⟩ := h3 od ws
      refine ⟨_, h1, p, k, od, ws, kvs, rfl, List.getElem?_set_self (List.getElem?_eq_some_iff.mp h2).1, ?_⟩
      let c' : Cz := { c with lk := ⟨(p, .lok od ws kvs) :: c.lk.fr, fun b => if b = i then some (p, .lok od ws kvs) else c.lk.tg b, lk_wf⟩ }
      refine lc_core1 (o := false) (c := c') (ED := NoX) (fin := fun acc s2 => match unl i kvs s2 with | some s3 => .ok (.im (.lst acc)) s2 | none => .bad) (Q := fun d M => lokN (Q d) p od ws kvs M) hg ht he (itKeys_ok (List.mem_cons_self ..)) g1 nl.2 ?_ fun acc s M' r' q' => ?_
      · cases el : lcL vs tg ta fa (keysL kvs) (fs.set i (some (.lok i kvs))) [] with
        | ok acc s2 =>
          rw [el, nox_ok, ok_bind] at q
          rw [ok_bind]
          cases eu : unl i kvs (restF (fs.set i (some (.lok i kvs))) s2 vs) with
          | none => rw [eu] at q; exact q.elim
          | some s3 =>
            rw [eu] at q
            obtain ⟨u1, u2, rfl⟩ := unl_inv eu
            dsimp only
            intro d M' r'
            obtain ⟨k', k1, k2⟩ := g2 _ _ _ sl M' rfl r'.rel u1 u2
            obtain rfl := r'.eq
            exact ⟨k', k1, q _ _ (k2.im _)⟩
        | ex cl f s2 => rw [el] at q; exact q.elim
        | bad => rw [el] at q; exact q.elim
      · split at q'
        · exact q' _ M' (r'.imI _)
        · exact q'.elim
    · rw [if_neg nl] at q; exact q.elim
  · exact q.elim
@[simp] noncomputable def fDcK (i : Nat) (vs : List Nat) (tg : FG) (t : FT) (kf e : FE) (s : Sl) : R Sv := match s[i]? with
  | some (some (.dic kvs)) => if noLok i 0 s = true ∧ vs.all (free (s.set i (some (.lok i kvs)))) = true then (nox (dcL vs tg t kf e (keysL kvs) (s.set i (some (.lok i kvs))) [])).bind fun acc s2 => (match unl i kvs (restF (s.set i (some (.lok i kvs))) s2 vs) with | some s3 => .ok (.im (.dic acc)) s3 | none => .bad) else .bad
  | _ => .bad
theorem s_dcK {i : Nat} {tg : FG} {dg : DG} {vs : List Nat} (hg : SimG vs tg dg) (ht : SimT ta ua) (hk : SimE fb db) (he : SimE fa da) : SimE (fDcK i vs tg ta fb fa) (dLockEN (dDc false (diKeysN (dVar i)) vs dg ua db da)) := by
  intro c fs sl M ED Q r q
  unfold fDcK at q
  split at q
  · rename_i kvs e
    by_cases nl : noLok i 0 fs = true ∧ vs.all (free (fs.set i (some (.lok i kvs)))) = true
    · rw [if_pos nl] at q
      obtain ⟨p, k, h1, h2, h3⟩ := r.lock e nl.1
      refine ⟨p, kvs, k, h2, fun od ws => ?_⟩
      obtain ⟨g1, g2⟩ := h3 od ws
      refine ⟨_, h1, p, k, od, ws, kvs, rfl, List.getElem?_set_self (List.getElem?_eq_some_iff.mp h2).1, ?_⟩
      let c' : Cz := { c with lk := ⟨(p, .lok od ws kvs) :: c.lk.fr, fun b => if b = i then some (p, .lok od ws kvs) else c.lk.tg b, lk_wf⟩ }
      refine dc_core1 (o := false) (c := c') (ED := NoX) (fin := fun acc s2 => match unl i kvs s2 with | some s3 => .ok (.im (.dic acc)) s2 | none => .bad) (Q := fun d M => lokN (Q d) p od ws kvs M) hg ht hk he (itKeys_ok (List.mem_cons_self ..)) g1 nl.2 ?_ fun acc s M' r' q' => ?_
      · cases el : dcL vs tg ta fb fa (keysL kvs) (fs.set i (some (.lok i kvs))) [] with
        | ok acc s2 =>
          rw [el, nox_ok, ok_bind] at q
          rw [ok_bind]
          cases eu : unl i kvs (restF (fs.set i (some (.lok i kvs))) s2 vs) with
          | none => rw [eu] at q; exact q.elim
          | some s3 =>
            rw [eu] at q
            obtain ⟨u1, u2, rfl⟩ := unl_inv eu
            dsimp only
            intro d M' r'
            obtain ⟨k', k1, k2⟩ := g2 _ _ _ sl M' rfl r'.rel u1 u2
            obtain rfl := r'.eq
            exact ⟨k', k1, q _ _ (k2.im _)⟩
        | ex cl f s2 => rw [el] at q; exact q.elim
        | bad => rw [el] at q; exact q.elim
      · split at q'
        · exact q' _ M' (r'.imI _)
        · exact q'.elim
    · rw [if_neg nl] at q; exact q.elim
  · exact q.elim
/-! ### return x, x owned, to be owned by the caller -/
theorem Rel.take {c : Cz} {fs : Sl} {sl : Slots} {M : Mem} (r : Rel c fs sl M) {i : Nat} {sv : Sv} (e : fs[i]? = some (some sv)) (hi : c.np ≤ i) : ∃ d, sl[i]? = some (some d) ∧ RelW c (fs.set i (some (.im .non))) (sl.set i (some .non)) M sv d := by
  obtain ⟨E, r⟩ := r
  obtain ⟨d, h1, h2⟩ := r.slt i sv e
  have hil : i < fs.length := (List.getElem?_eq_some_iff.mp e).1
  have e0 : ∀ j, (j = 0 ∧ (if j = 0 then E (i + 1) else if j = i + 1 then [] else E j) = E (i + 1)) ∨ (j ≠ 0 ∧ (if j = 0 then E (i + 1) else if j = i + 1 then [] else E j) = []) ∨ (j ≠ 0 ∧ j ≠ i + 1 ∧ (if j = 0 then E (i + 1) else if j = i + 1 then [] else E j) = E j) := fun j => by
    by_cases z : j = 0
    · exact .inl ⟨z, by rw [if_pos z]⟩
    · by_cases z2 : j = i + 1
      · exact .inr (.inl ⟨z, by rw [if_neg z, if_pos z2]⟩)
      · exact .inr (.inr ⟨z, z2, by rw [if_neg z, if_neg z2]⟩)
  refine ⟨d, h1, fun j => if j = 0 then E (i + 1) else if j = i + 1 then [] else E j, r.nd, by rw [List.length_set, List.length_set, r.len], by rw [if_pos rfl]; exact h2, fun j sv2 e2 => ?_, fun j e2 he => ?_, fun j => ?_, fun j k a n ha hb => ?_, fun j hj => ?_, fun j a hj ha => ?_, r.pre, r.lks, fun e2 he j hj => ?_⟩
  · rw [if_neg (Nat.succ_ne_zero j)]
    by_cases z : i = j
    · subst z
      rw [List.getElem?_set_self hil] at e2
      cases e2
      exact ⟨.non, List.getElem?_set_self (by rw [← r.len]; exact hil), by rw [if_pos rfl]; exact ⟨rfl, rfl⟩⟩
    · rw [List.getElem?_set_ne z] at e2
      obtain ⟨d', g1, g2⟩ := r.slt j sv2 e2
      exact ⟨d', by rw [List.getElem?_set_ne z]; exact g1, by rw [if_neg (by omega)]; exact g2⟩
  · rcases e0 j with ⟨z, k⟩ | ⟨z, k⟩ | ⟨z, z', k⟩ <;> rw [k] at he
    · exact r.sub _ e2 he
    · cases he
    · exact r.sub _ e2 he
  · rcases e0 j with ⟨z, k⟩ | ⟨z, k⟩ | ⟨z, z', k⟩ <;> rw [k]
    · exact r.ndE _
    · exact List.nodup_nil
    · exact r.ndE _
  · rcases e0 j with ⟨z, k1⟩ | ⟨z, k1⟩ | ⟨z, z', k1⟩ <;> rw [k1] at ha
    · rcases e0 k with ⟨y, k2⟩ | ⟨y, k2⟩ | ⟨y, y', k2⟩ <;> rw [k2] at hb
      · exact n (by rw [z, y])
      · cases hb
      · exact r.dis (i + 1) k a (Ne.symm y') ha hb
    · cases ha
    · rcases e0 k with ⟨y, k2⟩ | ⟨y, k2⟩ | ⟨y, y', k2⟩ <;> rw [k2] at hb
      · exact r.dis j (i + 1) a z' ha hb
      · cases hb
      · exact r.dis j k a n ha hb
  · rw [if_neg (Nat.succ_ne_zero j), if_neg (by omega)]
    exact r.pin j hj
  · rcases e0 j with ⟨z, k⟩ | ⟨z, k⟩ | ⟨z, z', k⟩ <;> rw [k] at ha
    · exact r.frs (i + 1) a (.inr (by omega)) ha
    · cases ha
    · exact r.frs j a (hj.elim (fun w => absurd w z) .inr) ha
  · rcases e0 j with ⟨z, k⟩ | ⟨z, k⟩ | ⟨z, z', k⟩ <;> rw [k] at hj
    · exact r.lkd e2 he _ hj
    · cases hj
    · exact r.lkd e2 he _ hj
@[simp] def fRetO (i : Nat) (s : Sl) : O := match s[i]? with
  | some (some sv) => .rt sv (s.set i (some (.im .non)))
  | _ => .bad
theorem s_retO {i : Nat} (hi : np ≤ i) : SimS np (fRetO i) (dRet false (dVar i)) := by
  intro c hc Dd fs sl M r q
  unfold fRetO at q
  split at q
  · rename_i sv e
    obtain ⟨d, h1, h2⟩ := r.take e (by rw [hc]; exact hi)
    exact ⟨d, h1, q d _ M h2⟩
  · exact q.elim
end
end F

/-! F12: objects made; == of own classes; fields set; a def keeps its function. -/
namespace F
open PySem PySem.Spec L2 OD
section
variable {fa fb fc : FE} {oa ob oc : FO} {da db dc : DE} {ta tb : FT} {ua ub : DT} {as : FA} {dr : DA} {fi : FI} {di : DI} {np : Nat} {s1 s2 : FS} {t1 t2 : DS}
/-- objects are made -/
@[simp] def made (r : Rs) : Option (Addr × List (Str × D)) := match r with
  | .ok (.im .non) (.ins C fs :: _) => some (C, fs)
  | _ => none
@[simp] def fMake (C : Addr) (n : Nat) (ff : FF) (as : FA) (s : Sl) : R Sv := (as s).bind fun ds s => if ds.length + 1 = n then (match made (ff (.ins C [] :: ds.map .im)) with | some (C', fs) => .ok (.im (.obj C' fs)) s | none => .bad) else .bad
@[simp] def fMakeN (C : Addr) (n : Nat) (ff : FF) (as : FA) (s : Sl) : R Sv := (as s).bind fun ds s => if ds.length + 1 = n then (match made (ff (.ins C [] :: ds.map .im)) with | some (C', fs) => .ok (.ins C' fs) s | none => .bad) else .bad
theorem ents_im : ∀ ds : List D, Ents (ds.map .im) ds (ds.map fun _ => []) := by
  intro ds
  induction ds with
  | nil => exact .nil
  | cons d ds ih => exact .cons ⟨rfl, rfl⟩ ih
theorem flat_nil {α : Type} : ∀ ds : List α, (ds.map fun _ => ([] : Mem)).flatten = [] := by
  intro ds
  induction ds with
  | nil => rfl
  | cons d ds ih => rw [List.map_cons, List.flatten_cons, ih]; rfl
theorem keys_nil {E : Mem} (h : keys E = []) : E = [] := by
  cases E with
  | nil => rfl
  | cons _ _ => cases h
theorem flat_keys : ∀ {Es Es' : List Mem}, Es'.map keys = Es.map keys → Es.flatten = [] → Es'.flatten = [] := by
  intro Es Es' h e
  apply keys_nil
  rw [keys_flatten, h, ← keys_flatten, e]
  rfl
theorem make_core {C : Addr} {ff : FF} {o : Bool} {fin : Addr → List (Str × D) → Sl → R Sv} (hr : SimA as dr) {c : Cz} {fs : Sl} {sl : Slots} {M : Mem} {ED : XD} {Q : DK} {n : Nat} (r : Rel c fs sl M)
    (q : PoE c sl ED Q ((as fs).bind fun ds s => if ds.length + 1 = n then (match made (ff (.ins C [] :: ds.map .im)) with | some (C', fs) => fin C' fs s | none => .bad) else .bad))
    (hfin : ∀ C' fs' s M x dx, x ∉ keys M → Rel c s sl M → PoE c sl ED Q (fin C' fs' s) → frzD (!o) (.ref x) (M ++ [(x, .ins C' dx fs')]) Q) : dMake C (fdN n ff) [] o dr sl M ED Q := by
  refine hr c fs sl M ED _ r ?_
  cases e : as fs with
  | ex cl f fs' => rw [e] at q; exact q
  | bad => rw [e] at q; exact q.elim
  | ok ds fs1 =>
    rw [e, ok_bind] at q
    intro M1 r1
    refine ⟨rfl, fun x dx hx => ?_⟩
    by_cases hn : ds.length + 1 = n
    · rw [if_pos hn] at q
      have es : sel [M1.length] (M1 ++ [(x, N.ins C dx [])]) = [(x, .ins C dx [])] := sel_new (ks := []) rfl
      rw [es]
      refine ⟨by simp [keys], .ins C [] :: ds.map .im, [(x, .ins C dx [])] :: ds.map fun _ => [], by simp [hn], .cons ⟨x, dx, rfl, rfl⟩ (ents_im ds), by rw [List.flatten_cons, flat_nil, List.append_nil], ?_⟩
      unfold made at q
      split at q
      · rename_i C' fs' em
        split at em
        · rename_i C2 fs2 outs er
          cases em
          rw [er]
          intro d Ew Es' g1 g2 g3
          obtain ⟨rfl, rfl⟩ := g3
          refine ⟨rfl, ?_⟩
          cases g1 with
          | cons h1 h2 =>
            rename_i E1 Es1
            obtain ⟨p, dx', hp, rfl⟩ := h1
            cases hp
            have e2 : Es1.flatten = [] := flat_keys (List.cons.inj g2).2 (flat_nil ds)
            rw [List.flatten_cons, e2, List.append_nil, List.append_nil]
            have ep : putM [M1.length] (M1 ++ [(x, N.ins C dx [])]) [(x, N.ins C' dx' fs')] = M1 ++ [(x, N.ins C' dx' fs')] := by
              show (M1 ++ [(x, N.ins C dx [])]).set M1.length (x, N.ins C' dx' fs') ++ [] = _
              rw [List.append_nil, List.set_append_right _ _ (Nat.le_refl _), Nat.sub_self]
              rfl
            rw [ep]
            exact hfin C' fs' fs1 M1 x dx' hx r1 q
        · cases em
      · exact q.elim
    · rw [if_neg hn] at q; exact q.elim
theorem s_make {C : Addr} {n : Nat} {ff : FF} (hr : SimA as dr) : SimE (fMake C n ff as) (dMake C (fdN n ff) [] false dr) := by
  intro c fs sl M ED Q r q
  refine make_core (o := false) (fin := fun C' fs s => .ok (.im (.obj C' fs)) s) hr r q fun C' fs' s M x dx hx r q => ?_
  refine ⟨M.length, .ins C' dx fs', by rw [List.getElem?_append_right (Nat.le_refl _), Nat.sub_self]; rfl, ?_⟩
  rw [List.eraseIdx_append_of_length_le (Nat.le_refl _), Nat.sub_self]
  show Q _ (M ++ [])
  rw [List.append_nil]
  exact q _ M (r.imI _)
theorem s_makeN {C : Addr} {n : Nat} {ff : FF} (hr : SimA as dr) : SimE (fMakeN C n ff as) (dMake C (fdN n ff) [] true dr) := by
  intro c fs sl M ED Q r q
  refine make_core (o := true) (fin := fun C' fs s => .ok (.ins C' fs) s) hr r q fun C' fs' s M x dx hx r q => ?_
  exact q _ _ (r.add (n := .ins C' dx fs') rfl hx)
/-- == of objects of own classes -/
@[simp] def eqRs (r : Rs) : Option Bool := match r with
  | .ok (.im (.bl b)) _ => some b
  | _ => none
@[simp] def eqO2 (PC : Addr → Addr → Bool) (ff : FF) (x y : D) : Option Bool := match x, y with
  | .obj C fs, .obj C' gs => if PC C C' = true then eqRs (ff [.im (.obj C fs), .im (.obj C' gs)]) else none
  | _, _ => none
@[simp] def fEqO (PC : Addr → Addr → Bool) (ff : FF) (n : Bool) (a b : FE) (s : Sl) : R Sv := (a s).bind fun w s => imK w fun x => (b s).bind fun w s => imK w fun y => (match eqO2 PC ff x y with | some b => .ok (.im (.bl (xorB n b))) s | none => .bad)
theorem s_eqO {PC : Addr → Addr → Bool} {P' : Addr → Addr → Prop} {ff : FF} {n : Bool} (hP : ∀ C C', PC C C' = true → P' C C') (ha : SimE fa da) (hb : SimE fb db) : SimE (fEqO PC ff n fa fb) (dEqO P' (fdN 2 ff) n da db) := by
  intro c fs sl M ED Q r q
  refine ha c fs sl M ED _ r (poE_cases q fun w fs1 e q x M1 r1 => ?_)
  cases w with
  | im x' =>
    obtain rfl := r1.eq
    unfold imK at q
    dsimp only at q
    refine hb c fs1 sl M1 ED _ r1.rel (poE_cases q fun w fs2 e q y M2 r2 => ?_)
    cases w with
    | im y' =>
      obtain rfl := r2.eq
      dsimp only at q
      split at q
      · rename_i b eb
        have q1 := q _ M2 (r2.rel.imI _)
        unfold eqO2 at eb
        split at eb
        · rename_i C fs' C' gs efa
          by_cases hp : PC C C' = true
          · rw [if_pos hp] at eb
            refine ⟨C, fs', C', gs, rfl, rfl, hP _ _ hp, ?_⟩
            refine ⟨List.nodup_nil, [.im (.obj C fs'), .im (.obj C' gs)], [[], []], rfl, .cons ⟨rfl, rfl⟩ (.cons ⟨rfl, rfl⟩ .nil), rfl, ?_⟩
            unfold eqRs at eb
            split at eb
            · rename_i b' outs er
              cases eb
              rw [er]
              intro d Ew Es' g1 g2 g3
              obtain ⟨rfl, rfl⟩ := g3
              refine ⟨b, rfl, ?_⟩
              rw [flat_keys g2 rfl, List.append_nil, List.append_nil]
              exact q1
            · cases eb
          · rw [if_neg hp] at eb; cases eb
        · cases eb
      · exact q.elim
    | _ => exact q.elim
  | _ => exact q.elim
/-- x.f = v -/
@[simp] def setFd (P : Addr → Bool) (f : Str) (d : D) : Sv → Option Sv
  | .ins C fs => if P C = true ∧ fs.length < 1000 then some (.ins C (putFD f d fs)) else none
  | _ => none
@[simp] def fSetF (P : Addr → Bool) (f : Str) (v : FE) (i : Nat) (s : Sl) : O := (v s).thn fun w s => imS w fun d => (match s[i]? with
  | some (some sv) => (match setFd P f d sv with | some sv' => .nx (s.set i (some sv')) | none => .bad)
  | _ => .bad)
theorem s_setF {P : Addr → Bool} {P' : Addr → Prop} {f : Str} {i : Nat} (hP : ∀ C, P C = true → P' C) (hv : SimE fa da) : SimS np (fSetF P f fa i) (dSetF P' f da (dVar i)) := by
  intro c hc Dd fs sl M r q
  refine hv c fs sl M _ _ r (poE_st q fun w fs1 e q d M1 r1 => ?_)
  cases w with
  | im x =>
    obtain rfl := r1.eq
    unfold imS at q
    dsimp only at q
    split at q
    · rename_i sv e0
      cases sv with
      | ins C fs' =>
        obtain ⟨p, k, dx, h1, h2, h3⟩ := r1.rel.ins e0
        refine ⟨_, h1, k, _, h2, C, dx, fs', rfl, ?_⟩
        unfold setFd at q
        dsimp only at q
        by_cases hp : P C = true ∧ fs'.length < 1000
        · rw [if_pos hp] at q
          exact ⟨hP _ hp.1, hp.2, q _ _ (h3 _)⟩
        · rw [if_neg hp] at q; exact q.elim
      | _ => exact q.elim
    · exact q.elim
  | _ => exact q.elim
end
/-- a def of the top, as its function -/
theorem DefOk.fn {P : Program} {w : World} {K : PySem.W.Frag} {mg : Str → Option Value} {base : Heap} {x : Str} {st : Stmt} {f : Addr} {fd : FuncData} {N ps : List Str} {k np nl : Nat} {body : FS} {td : DS}
    (Fn : Fun K x x st f fd) (m : mg x = some (.ref f)) (b : Binds K fd ps []) (S : FnScope N ps (defScope st)) (hp : ps.length = np) (hn : N.length = np + nl)
    (hder : ∀ (cdv : Value) (A : Around) (outer : List Env) (s : Shared) (H : Hp) (E : XK), Room k (A.deeper (PyProof.Rows.envOfC x (defScope st) s.heap.objs.size f cdv)) →
      DBx (cxOf CX0 P w K mg base N x (defScope st) f cdv A outer s H E).nox (fun _ => E0) (defBody st) td) (hs : SimS np body td) : DefOk P w K mg base (k + 1) x ps (fdN np (fDef np nl body)) :=
  .of Fn m b S (by rw [hp]; exact fdN_len) hder fun ds M ED QD h => run_ok (x := false) hn hs h.1 h.2 rfl rfl (fun z => nomatch z)
/-- a method of the top, as its function -/
theorem fn_fn {P : Program} {w : World} {K : PySem.W.Frag} {mg : Str → Option Value} {base : Heap} {x qual : Str} {st : Stmt} {f : Addr} {fd : FuncData} {N ps : List Str} {k np nl : Nat} {body : FS} {td : DS}
    (Fn : Fun K x qual st f fd) (S : FnScope N ps (defScope st)) (hp : ps.length = np) (hn : N.length = np + nl)
    (hder : ∀ (cdv : Value) (A : Around) (outer : List Env) (s : Shared) (H : Hp) (E : XK), Room k (A.deeper (PyProof.Rows.envOfC qual (defScope st) s.heap.objs.size f cdv)) →
      DBx (cxOf CX0 P w K mg base N qual (defScope st) f cdv A outer s H E).nox (fun _ => E0) (defBody st) td) (hs : SimS np body td) : FnOk P w K mg base CX0 (k + 1) f fd ps (spD K (fdN np (fDef np nl body))) :=
  fn_d Fn S (by rw [hp]; exact fdN_len) hder fun ds M ED QD h => run_ok (x := false) hn hs h.1 h.2 rfl rfl (fun z => nomatch z)
/-- the law -/
theorem law_fn {P : Program} {w : World} {K : PySem.W.Frag} {mg : Str → Option Value} {base : Heap} {x : Str} {st : Stmt} {f : Addr} {fd : FuncData} {N ps : List Str} {k nl : Nat} {body : FS} {td : DS}
    (Fn : Fun K x x st f fd) (S : FnScope N ps (defScope st)) (hp : ps.length = 1) (hn : N.length = 1 + nl)
    (hder : ∀ (cdv : Value) (A : Around) (outer : List Env) (s : Shared) (H : Hp) (E : XK), Room k (A.deeper (PyProof.Rows.envOfC x (defScope st) s.heap.objs.size f cdv)) →
      DBx (cxOf CX0 P w K mg base N x (defScope st) f cdv A outer s H E).nox (fun _ => E0) (defBody st) td) (hs : SimS 1 body td)
    (hl : ∀ ns : List Int, ns.length ≤ 63 → ∃ outs, fDef 1 nl body [.im (.scr ns)] = .ok (.im (.bl true)) outs) : FnOk P w K mg base CX0 (k + 1) f fd ps (spLaw K) :=
  law_ok (fn_d Fn S (by rw [hp]; exact fdLaw_len) hder fun ds M ED QD h => by
    obtain ⟨ns, rfl, rfl, h1, h2⟩ := h
    obtain ⟨outs, ho⟩ := hl ns h1
    refine run_ok (x := false) (ED := ED) hn hs List.nodup_nil ⟨[.im (.scr ns)], [[]], rfl, .cons ⟨rfl, rfl⟩ .nil, rfl, ?_⟩ rfl rfl (fun z => nomatch z)
    rw [ho]
    intro d Ew Es' g1 g2 g3
    obtain ⟨rfl, rfl⟩ := g3
    rw [flat_keys g2 rfl]
    exact h2)
end F

/-! F13: more of the same. -/
namespace F
open PySem PySem.Spec L2 OD
section
variable {fa fb fc : FE} {oa ob oc : FO} {da db dc : DE} {ta tb : FT} {ua ub : DT} {as : FA} {dr : DA} {fi : FI} {di : DI} {np : Nat} {s1 s2 : FS} {t1 t2 : DS}
theorem s_chain {rd rd' : D → D → Mem → DK → Prop} {f f' : D → D → Option D} (hf : OpF rd f) (hf' : OpF rd' f') (ha : SimO oa da) (hb : SimO ob db) (hc : SimO oc dc) : SimE (fChain f f' oa ob oc) (dChain rd rd' da db dc) := by
  intro c fs sl M ED Q r q
  refine ha c fs sl M ED _ r (poO_cases q fun g fs1 e q x M1 r1 l1 => ?_)
  refine hb c fs1 sl M1 ED _ r1 (poO_cases q fun h fs2 e q y M2 r2 l2 => ?_)
  split at q
  · rename_i x' y' gx hy
    refine l1 fs2 M2 x' _ r2 gx (l2 fs2 M2 y' _ r2 hy ?_)
    split at q
    · rename_i ef
      refine hf _ _ _ _ _ ef ⟨true, rfl, ?_⟩
      rw [if_pos rfl]
      refine hc c fs2 sl M2 ED _ r2 (poO_cases q fun k fs3 e q z M3 r3 l3 => ?_)
      split at q
      · rename_i y2 z2 hy2 hz2
        refine l2 fs3 M3 y2 _ r3 hy2 (l3 fs3 M3 z2 _ r3 hz2 ?_)
        cases ef' : f' y2 z2 with
        | some v => rw [ef'] at q; exact hf' _ _ _ _ _ ef' (q v M3 (r3.imI v))
        | none => rw [ef'] at q; exact q.elim
      · exact q.elim
    · rename_i ef
      refine hf _ _ _ _ _ ef ⟨false, rfl, ?_⟩
      rw [if_neg Bool.false_ne_true]
      exact q _ M2 (r2.imI _)
    · exact q.elim
  · exact q.elim
@[simp] noncomputable def iaddF : D → D → Option D
  | .int i, .int j => some (.int (i + j))
  | .str x, .str y => cif (x.length + y.length ≤ 16777216) (some (.str (x ++ y))) (none)
  | _, _ => none
theorem iaddF_ok : OpF iaddD iaddF := by
  intro x y z M Q h q
  cases x <;> cases y <;> first
    | (cases h; done)
    | (cases h; exact q)
    | (obtain ⟨hz, rfl⟩ := cif_inv h; exact ⟨hz, q⟩)
/-! operators that make owned objects -/
@[simp] def fOpN (f : D → D → Option N) (a b : FO) (s : Sl) : R Sv := (a s).bind fun g s => (b s).bind fun h s => match g s, h s with
  | some x, some y => optN (f x y) s
  | _, _ => .bad
theorem s_opN {rd : D → D → Mem → DK → Prop} {f : D → D → Option N} (hf : ∀ x y n, f x y = some n → okN n = true ∧ ∀ M Q, al true n M Q → rd x y M Q) (ha : SimO oa da) (hb : SimO ob db) : SimE (fOpN f oa ob) (dOp rd da db) := by
  intro c fs sl M ED Q r q
  refine ha c fs sl M ED _ r (poO_cases q fun g fs1 e q x M1 r1 l1 => ?_)
  refine hb c fs1 sl M1 ED _ r1 (poO_cases q fun h fs2 e q y M2 r2 l2 => ?_)
  split at q
  · rename_i x' y' gx hy
    refine l1 fs2 M2 x' _ r2 gx (l2 fs2 M2 y' _ r2 hy ?_)
    cases ef : f x' y' with
    | some n => rw [ef] at q; exact (hf _ _ _ ef).2 _ _ (al_new (hf _ _ _ ef).1 r2 q)
    | none => rw [ef] at q; exact q.elim
  · exact q.elim
@[simp] noncomputable def mulFN : D → D → Option N
  | .lst a, .int k => cif (-9223372036854775808 ≤ k ∧ k < 9223372036854775808 ∧ a.length * k.toNat ≤ 16777216) (some (.lst (List.replicate k.toNat a).flatten)) (none)
  | _, _ => none
theorem mulFN_ok : ∀ x y n, mulFN x y = some n → okN n = true ∧ ∀ M Q, al true n M Q → mulD true x y M Q := by
  intro x y n h
  cases x <;> cases y <;> first
    | (cases h; done)
    | (obtain ⟨hz, rfl⟩ := cif_inv h; exact ⟨rfl, fun M Q q => ⟨by have := hz.1; omega, by have := hz.2.1; omega, hz.2.2, q⟩⟩)
@[simp] noncomputable def addFN : D → D → Option N
  | .lst a, .lst b => cif (a.length + b.length ≤ 16777216) (some (.lst (a ++ b))) (none)
  | _, _ => none
theorem addFN_ok : ∀ x y n, addFN x y = some n → okN n = true ∧ ∀ M Q, al true n M Q → addD true x y M Q := by
  intro x y n h
  cases x <;> cases y <;> first
    | (cases h; done)
    | (obtain ⟨hz, rfl⟩ := cif_inv h; exact ⟨rfl, fun M Q q => ⟨hz, q⟩⟩)
/-- a dict made of a dict that is walked, owned -/
@[simp] noncomputable def fDcKN (i : Nat) (vs : List Nat) (tg : FG) (t : FT) (kf e : FE) (s : Sl) : R Sv := match s[i]? with
  | some (some (.dic kvs)) => if noLok i 0 s = true ∧ vs.all (free (s.set i (some (.lok i kvs)))) = true then (nox (dcL vs tg t kf e (keysL kvs) (s.set i (some (.lok i kvs))) [])).bind fun acc s2 => (match unl i kvs (restF (s.set i (some (.lok i kvs))) s2 vs) with | some s3 => .ok (.dic acc) s3 | none => .bad) else .bad
  | _ => .bad
theorem s_dcKN {i : Nat} {tg : FG} {dg : DG} {vs : List Nat} (hg : SimG vs tg dg) (ht : SimT ta ua) (hk : SimE fb db) (he : SimE fa da) : SimE (fDcKN i vs tg ta fb fa) (dLockEN (dDc true (diKeysN (dVar i)) vs dg ua db da)) := by
  intro c fs sl M ED Q r q
  unfold fDcKN at q
  split at q
  · rename_i kvs e
    by_cases nl : noLok i 0 fs = true ∧ vs.all (free (fs.set i (some (.lok i kvs)))) = true
    · rw [if_pos nl] at q
      obtain ⟨p, k, h1, h2, h3⟩ := r.lock e nl.1
      refine ⟨p, kvs, k, h2, fun od ws => ?_⟩
      obtain ⟨g1, g2⟩ := h3 od ws
      refine ⟨_, h1, p, k, od, ws, kvs, rfl, List.getElem?_set_self (List.getElem?_eq_some_iff.mp h2).1, ?_⟩
      let c' : Cz := { c with lk := ⟨(p, .lok od ws kvs) :: c.lk.fr, fun b => if b = i then some (p, .lok od ws kvs) else c.lk.tg b, lk_wf⟩ }
      refine dc_core1 (o := false) (c := c') (ED := NoX) (fin := fun acc s2 => match unl i kvs s2 with | some s3 => .ok (.dic acc) s2 | none => .bad) (Q := fun d M => lokN (Q d) p od ws kvs M) hg ht hk he (itKeys_ok (List.mem_cons_self ..)) g1 nl.2 ?_ fun acc s M' r' q' => ?_
      · cases el : dcL vs tg ta fb fa (keysL kvs) (fs.set i (some (.lok i kvs))) [] with
        | ok acc s2 =>
          rw [el, nox_ok, ok_bind] at q
          rw [ok_bind]
          cases eu : unl i kvs (restF (fs.set i (some (.lok i kvs))) s2 vs) with
          | none => rw [eu] at q; exact q.elim
          | some s3 =>
            rw [eu] at q
            obtain ⟨u1, u2, rfl⟩ := unl_inv eu
            dsimp only
            intro d M' r'
            obtain ⟨k', k1, k2⟩ := g2 _ _ _ sl M' rfl r' u1 u2
            exact ⟨k', k1, q _ _ k2⟩
        | ex cl f s2 => rw [el] at q; exact q.elim
        | bad => rw [el] at q; exact q.elim
      · split at q'
        · exact al_new (n := .dic acc) rfl r' q'
        · exact q'.elim
    · rw [if_neg nl] at q; exact q.elim
  · exact q.elim
end
end F

/-! F14: x[i], x[j] = x[j], x[i]; functions as values; aliases. -/
namespace F
open PySem PySem.Spec L2 OD
section
variable {fa fb fc : FE} {oa ob oc : FO} {da db dc : DE} {ta tb : FT} {ua ub : DT} {as : FA} {dr : DA} {fi : FI} {di : DI} {np : Nat} {s1 s2 : FS} {t1 t2 : DS}
/-- xs with the values at two places exchanged -/
def swp (xs : List D) (a b : Nat) (v w : D) : List D := (xs.set a v).set b w
@[simp] def swpG (i j k : Nat) (d : D) (s : Sl) : Option Sl := match d, s[i]?, s[j]?, s[k]? with
  | .tup [v, w], some (some (.lst xs)), some (some (.im (.int a))), some (some (.im (.int b))) => (match ixN xs.length a, ixN xs.length b with
    | some ja, some jb => some (s.set i (some (.lst ((xs.set ja v).set jb w))))
    | _, _ => none)
  | _, _, _, _ => none
@[simp] noncomputable def fSwp (i j k : Nat) (s : Sl) : O := (fTup (fCons (fOp ixF (oV i) (oV k)) (fCons (fOp ixF (oV i) (oV j)) fNil)) s).thn fun w s => imS w fun d => match swpG i j k d s with
  | some s => .nx s
  | none => .bad
theorem s_swp {i j k : Nat} : SimS np (fSwp i j k) (dAsg (dTup (dCons (dOp ixD (dVar i) (dVar k)) (dCons (dOp ixD (dVar i) (dVar j)) dNil))) (dgTup 2 (dgCons (dgSub (dVar i) (dVar j)) (dgCons (dgSub (dVar i) (dVar k)) dgNil)))) := by
  intro c hc Dd fs sl M r q
  refine (s_tup (a_cons (s_op ixF_ok (o_v i) (o_v k)) (a_cons (s_op ixF_ok (o_v i) (o_v j)) a_nil))) c fs sl M _ _ r (poE_st q fun w fs1 e q d M1 r1 => ?_)
  cases w with
  | im x =>
    obtain rfl := r1.eq
    unfold imS at q
    dsimp only at q
    unfold swpG at q
    split at q
    · rename_i fs2 eq1
      split at eq1
      · rename_i v w xs a b e1 e2 e3
        split at eq1
        · rename_i ja jb ea eb
          cases eq1
          obtain ⟨p, t, g1, g2, g3⟩ := r1.rel.lst e1
          have ex : ∀ {z : Nat} {u : D}, fs1[z]? = some (some (.im u)) → sl[z]? = some (some u) := by
            intro z u hz
            obtain ⟨E, r'⟩ := r1.rel
            obtain ⟨x0, h1, h2⟩ := r'.slt z _ hz
            rw [h1, h2.1]
          refine ⟨rfl, v, [w], rfl, ⟨_, g1, ⟨_, ex e2, t, _, g2, ja, ea, ?_⟩⟩⟩
          have ht : t < M1.length := (List.getElem?_eq_some_iff.mp g2).1
          have g2' : (M1.set t (p, N.lst (xs.set ja v)))[t]? = some (p, .lst (xs.set ja v)) := by rw [List.getElem?_set_self ht]
          refine ⟨w, [], rfl, ⟨_, g1, ⟨_, ex e3, t, _, g2', jb, by rw [List.length_set]; exact eb, ?_⟩⟩⟩
          refine ⟨rfl, ?_⟩
          have g4 := g3 ((xs.set ja v).set jb w)
          have e5 : (M1.set t (p, N.lst (xs.set ja v))).set t (p, N.lst ((xs.set ja v).set jb w)) = M1.set t (p, N.lst ((xs.set ja v).set jb w)) := by
            rw [List.set_set]
          show Dd.nx sl ((M1.set t (p, N.lst (xs.set ja v))).set t (p, N.lst ((xs.set ja v).set jb w)))
          rw [e5]
          exact q sl _ g4
        · cases eq1
      · cases eq1
    · exact q.elim
  | _ => exact q.elim
/-- a function that stands in a slot is called -/
@[simp] def callIm (n : Nat) (ff : FF) (ds : List D) (s : Sl) : R Sv := if ds.length = n then (match ff (ds.map .im) with
  | .ok (.im d) _ => .ok (.im d) s
  | _ => .bad) else .bad
@[simp] def fCallV (i : Nat) (a : Addr) (n : Nat) (ff : FF) (as : FA) (s : Sl) : R Sv := match s[i]? with
  | some (some (.im (.ref b))) => if b = a then (as s).bind fun ds s => callIm n ff ds s else .bad
  | _ => .bad
theorem s_callV {i n : Nat} {a : Addr} {ff : FF} {S : Addr → FD → Prop} (hS : S a (fdN n ff)) (hr : SimA as dr) : SimE (fCallV i a n ff as) (dCallE (dVar i) S [] dr) := by
  intro c fs sl M ED Q r q
  unfold fCallV at q
  split at q
  · rename_i b e0
    by_cases hb : b = a
    · rw [if_pos hb] at q
      subst hb
      have e1 : sl[i]? = some (some (.ref b)) := by
        obtain ⟨E, r'⟩ := r
        obtain ⟨x0, h1, h2⟩ := r'.slt i _ e0
        rw [h1, h2.1]
      refine ⟨_, e1, b, _, rfl, hS, hr c fs sl M ED _ r ?_⟩
      cases e : as fs with
      | ex cl f fs' => rw [e] at q; exact q
      | bad => rw [e] at q; exact q.elim
      | ok ds fs1 =>
        rw [e, ok_bind] at q
        intro M1 r1
        unfold callIm at q
        by_cases hn : ds.length = n
        · rw [if_pos hn] at q
          refine ⟨rfl, ⟨List.nodup_nil, ds.map .im, ds.map fun _ => [], by simp [hn], ents_im ds, by rw [flat_nil]; rfl, ?_⟩⟩
          split at q
          · rename_i d outs er
            rw [er]
            intro d' Ew Es' g1 g2 g3
            obtain ⟨rfl, rfl⟩ := g3
            rw [flat_keys g2 (flat_nil ds)]
            have e9 : putM [] M1 ([] ++ []) = M1 := by unfold putM; simp
            rw [e9]
            exact q _ M1 (r1.imI _)
          · exact q.elim
        · rw [if_neg hn] at q; exact q.elim
    · rw [if_neg hb] at q; exact q.elim
  · exact q.elim
/-- for f in (f1, f2, ..): body -/
def forFL (i : Nat) (body : Addr → FF → FS) : List (Addr × FF) → Sl → O
  | [], s => .nx s
  | (a, ff) :: r, s => match body a ff (s.set i (some (.im (.ref a)))) with
    | .nx s => forFL i body r s
    | .ct s => forFL i body r s
    | .bk s => .nx s
    | o => o
@[simp] def fForF (i : Nat) (L : List (Addr × FF)) (body : Addr → FF → FS) (s : Sl) : O := forFL i body L s
theorem forF_core {i : Nat} {body : Addr → FF → FS} (L0 L : List (Addr × FF)) (hb : ∀ a ff, (a, ff) ∈ L0 → SimS np (body a ff) t1) {c : Cz} (hc : c.np = np) {it : Itm} {xs : List D} (hx : xs = L0.map fun p => D.ref p.1) (ok : ItOk1 c it xs) {Dd : DEnds} {fs1 : Sl} {sl : Slots} {M1 : Mem} (r1 : Rel c fs1 sl M1) (q : PoS c Dd (forFL i body L0 fs1)) :
    ∃ W : Nat → Slots → Mem → Prop, W 0 sl M1 ∧ (∀ i sl M, i ≤ it.n → W i sl M → it.gd M) ∧
  (∀ j sl M, j < it.n → W j sl M → dName i (it.at_ j) sl M fun sl2 M2 => t1 { Dd with nx := W (j + 1), ct := W (j + 1), bk := Dd.nx } sl2 M2) ∧ ∀ sl M, W it.n sl M → Dd.nx sl M := by
  have hl : xs.length = L0.length := by rw [hx, List.length_map]
  refine ⟨fun j sl' M' => ∃ fs', Rel c fs' sl' M' ∧ PoS c Dd (forFL i body (L0.drop j) fs'), ⟨fs1, r1, q⟩, fun _ sl M _ w => ?_, fun j sl' M' hj w => ?_, fun sl' M' w => ?_⟩
  · obtain ⟨fs', r', _⟩ := w
    exact ok.gd fs' sl M r'
  · obtain ⟨fs', r', q'⟩ := w
    have hj' : j < xs.length := by rw [← ok.n]; exact hj
    have hj2 : j < L0.length := by omega
    rw [List.drop_eq_getElem_cons hj2] at q'
    rw [ok.at_ j hj']
    have ex : xs[j] = .ref (L0[j]).1 := by subst hx; rw [List.getElem_map]
    rw [ex]
    have hm : L0[j] ∈ L0 := List.getElem_mem hj2
    revert q' hm
    generalize L0[j] = e
    obtain ⟨a, ff⟩ := e
    intro q' hm
    unfold forFL at q'
    show t1 _ (sl'.set i (some (.ref a))) M'
    refine hb a ff hm c hc _ _ _ M' (r'.set i (.ref a)) ?_
    cases eb : body a ff (fs'.set i (some (.im (.ref a)))) with
    | nx fs3 => rw [eb] at q'; exact fun sl3 M3 r3 => ⟨fs3, r3, q'⟩
    | ct fs3 => rw [eb] at q'; exact fun sl3 M3 r3 => ⟨fs3, r3, q'⟩
    | bk fs3 => rw [eb] at q'; exact q'
    | rt w fs3 => rw [eb] at q'; exact q'
    | ex cl g fs3 => rw [eb] at q'; exact q'
    | bad => rw [eb] at q'; exact q'
  · obtain ⟨fs', r', q'⟩ := w
    rw [ok.n, hl, List.drop_length] at q'
    exact q' sl' M' r'
theorem s_forF {i : Nat} {L : List (Addr × FF)} {body : Addr → FF → FS} (hi : SimI (fun s => .ok (L.map fun p => D.ref p.1) s) di) (hb : ∀ a ff, (a, ff) ∈ L → SimS np (body a ff) t1) : SimS np (fForF i L body) (dFor di (dName i) t1) := by
  intro c hc Dd fs sl M r q
  exact hi c fs sl M _ _ r fun it M1 r1 ok => forF_core L L hb hc rfl (ok.one c) r1 q
/-- three functions -/
def S3 (a1 a2 a3 : Addr) (F1 F2 F3 : FD) : Addr → FD → Prop := fun f F => (f = a1 ∧ F = F1) ∨ (f = a2 ∧ F = F2) ∨ (f = a3 ∧ F = F3)
theorem S3.held {P : Program} {w : World} {K : PySem.W.Frag} {mg : Str → Option Value} {base : Heap} {A : Around} {a1 a2 a3 : Addr} {F1 F2 F3 : FD} (h1 : ∃ k, HeldD P w K mg base k a1 F1 ∧ Room k A) (h2 : ∃ k, HeldD P w K mg base k a2 F2 ∧ Room k A) (h3 : ∃ k, HeldD P w K mg base k a3 F3 ∧ Room k A) :
    ∀ f F, S3 a1 a2 a3 F1 F2 F3 f F → ∃ k, HeldD P w K mg base k f F ∧ Room k A := by
  intro f F h
  rcases h with ⟨rfl, rfl⟩ | ⟨rfl, rfl⟩ | ⟨rfl, rfl⟩
  · exact h1
  · exact h2
  · exact h3
theorem s_forF3 {i n : Nat} {a1 a2 a3 : Addr} {f1 f2 f3 : FF} {body : Addr → FF → FS} (hb : ∀ a ff, S3 a1 a2 a3 (fdN n f1) (fdN n f2) (fdN n f3) a (fdN n ff) → SimS np (body a ff) t1) :
    SimS np (fForF i [(a1, f1), (a2, f2), (a3, f3)] body) (dFor (diSeq (dTup (dCons (dC (.ref a1)) (dCons (dC (.ref a2)) (dCons (dC (.ref a3)) dNil))))) (dName i) t1) := by
  refine s_forF ?_ fun a ff h => hb a ff ?_
  · have h := i_seq (s_tup (a_cons (s_c (.ref a1)) (a_cons (s_c (.ref a2)) (a_cons (s_c (.ref a3)) a_nil))))
    intro c fs sl M ED Q r q
    refine h c fs sl M ED Q r ?_
    have e : iSeq (fTup (fCons (fC (.ref a1)) (fCons (fC (.ref a2)) (fCons (fC (.ref a3)) fNil)))) fs = .ok [.ref a1, .ref a2, .ref a3] fs := by
      simp
    rw [e]
    exact q
  · simp only [List.mem_cons, Prod.mk.injEq, List.not_mem_nil, or_false] at h
    unfold S3
    rcases h with ⟨rfl, rfl⟩ | ⟨rfl, rfl⟩ | ⟨rfl, rfl⟩
    · exact .inl ⟨rfl, rfl⟩
    · exact .inr (.inl ⟨rfl, rfl⟩)
    · exact .inr (.inr ⟨rfl, rfl⟩)
end
/-- a def of the top under another name -/
theorem DefOk.fnA {P : Program} {w : World} {K : PySem.W.Frag} {mg : Str → Option Value} {base : Heap} {x y : Str} {st : Stmt} {f : Addr} {fd : FuncData} {N ps : List Str} {k np nl : Nat} {body : FS} {td : DS}
    (Fn : Fun K x x st f fd) (m : mg y = some (.ref f)) (b : Binds K fd ps []) (S : FnScope N ps (defScope st)) (hp : ps.length = np) (hn : N.length = np + nl)
    (hder : ∀ (cdv : Value) (A : Around) (outer : List Env) (s : Shared) (H : Hp) (E : XK), Room k (A.deeper (PyProof.Rows.envOfC x (defScope st) s.heap.objs.size f cdv)) →
      DBx (cxOf CX0 P w K mg base N x (defScope st) f cdv A outer s H E).nox (fun _ => E0) (defBody st) td) (hs : SimS np body td) : DefOk P w K mg base (k + 1) y ps (fdN np (fDef np nl body)) :=
  ⟨f, fd, m, Fn.kp, b, fn_fn Fn S hp hn hder hs⟩
end F

/-! F15: d.copy(), d.get(k), list(range(..)). -/
namespace F
open PySem PySem.Spec L2 OD
section
variable {fa fb fc : FE} {oa ob oc : FO} {da db dc : DE} {ta tb : FT} {ua ub : DT} {as : FA} {dr : DA} {fi : FI} {di : DI} {np : Nat} {s1 s2 : FS} {t1 t2 : DS}
@[simp] def fCopy (a : FO) (s : Sl) : R Sv := (a s).bind fun g s => match g s with
  | some (.dic kvs) => .ok (.im (.dic kvs)) s
  | _ => .bad
@[simp] def fCopyN (a : FO) (s : Sl) : R Sv := (a s).bind fun g s => match g s with
  | some (.dic kvs) => .ok (.dic kvs) s
  | _ => .bad
theorem s_copy (ha : SimO oa da) : SimE (fCopy oa) (dCopy false da) := by
  intro c fs sl M ED Q r q
  refine ha c fs sl M ED _ r (poO_cases q fun g fs1 e q x M1 r1 l1 => ?_)
  split at q
  · rename_i kvs g0
    exact l1 fs1 M1 _ _ r1 g0 ⟨kvs, rfl, q _ M1 (r1.imI _)⟩
  · exact q.elim
theorem s_copyN (ha : SimO oa da) : SimE (fCopyN oa) (dCopy true da) := by
  intro c fs sl M ED Q r q
  refine ha c fs sl M ED _ r (poO_cases q fun g fs1 e q x M1 r1 l1 => ?_)
  split at q
  · rename_i kvs g0
    exact l1 fs1 M1 _ _ r1 g0 ⟨kvs, rfl, al_new (n := .dic kvs) rfl r1 q⟩
  · exact q.elim
@[simp] def fGet1 (a : FO) (b : FE) (s : Sl) : R Sv := (a s).bind fun g s => match g s with
  | some (.dic _) => (b s).bind fun w s => imK w fun y => (match g s, keyD y with
    | some (.dic kvs), some k => .ok (.im ((lookD kvs k).getD .non)) s
    | _, _ => .bad)
  | _ => .bad
theorem s_get1 (ha : SimO oa da) (hb : SimE fb db) : SimE (fGet1 oa fb) (dGet1 da db) := by
  intro c fs sl M ED Q r q
  refine ha c fs sl M ED _ r (poO_cases q fun g fs1 e q x M1 r1 l1 => ?_)
  split at q
  · rename_i kvs0 g0
    refine ⟨l1 fs1 M1 _ _ r1 g0 ⟨_, rfl⟩, hb c fs1 sl M1 ED _ r1 (poE_cases q fun w fs2 e q y M2 r2 => ?_)⟩
    cases w with
    | im y' =>
      obtain rfl := r2.eq
      unfold imK at q
      dsimp only at q
      split at q
      · rename_i kvs k g3 ek
        exact l1 fs2 M2 _ _ r2.rel g3 ⟨kvs, k, rfl, ek, q _ M2 (r2.rel.imI _)⟩
      · exact q.elim
    | _ => exact q.elim
  · exact q.elim
def rgOkN (i j : Int) : Prop := 0 ≤ i ∧ i ≤ 4611686018427387903 ∧ -4611686018427387904 ≤ j ∧ j ≤ 4611686018427387903 ∧ j - i ≤ 16777216
theorem rgOk_of {i j : Int} (h : rgOkN i j) : RgOk i j := by
  obtain ⟨h1, h2, h3, h4, h5⟩ := h
  exact ⟨by omega, by omega, by omega, by omega, by omega⟩
@[simp] noncomputable def lrG (fin : List D → Sl → R Sv) (i j : D) (s : Sl) : R Sv := match i, j with
  | .int a, .int b => cif (rgOkN a b) (fin (rgD a b) s) (.bad)
  | _, _ => .bad
@[simp] noncomputable def fLr1 (a : FE) (s : Sl) : R Sv := (a s).bind fun w s => imK w fun x => lrG (fun l s => .ok (.im (.lst l)) s) (.int 0) x s
@[simp] noncomputable def fLr1N (a : FE) (s : Sl) : R Sv := (a s).bind fun w s => imK w fun x => lrG (fun l s => .ok (.lst l) s) (.int 0) x s
@[simp] noncomputable def fLr2 (a b : FE) (s : Sl) : R Sv := (a s).bind fun w s => imK w fun x => (b s).bind fun w s => imK w fun y => lrG (fun l s => .ok (.im (.lst l)) s) x y s
@[simp] noncomputable def fLr2N (a b : FE) (s : Sl) : R Sv := (a s).bind fun w s => imK w fun x => (b s).bind fun w s => imK w fun y => lrG (fun l s => .ok (.lst l) s) x y s
theorem lr1_core {o : Bool} {fin : List D → Sl → R Sv} (ha : SimE fa da) {c : Cz} {fs : Sl} {sl : Slots} {M : Mem} {ED : XD} {Q : DK} (r : Rel c fs sl M) (q : PoE c sl ED Q ((fa fs).bind fun w s => imK w fun x => lrG fin (.int 0) x s))
    (hf : ∀ l s M, Rel c s sl M → PoE c sl ED Q (fin l s) → al o (.lst l) M Q) : dLstRg1 o da sl M ED Q := by
  refine ha c fs sl M ED _ r (poE_cases q fun w fs1 e q x M1 r1 => ?_)
  cases w with
  | im x' =>
    obtain rfl := r1.eq
    unfold imK at q
    dsimp only at q
    unfold lrG at q
    split at q
    · rename_i a b ea
      cases ea
      by_cases hz : rgOkN 0 b
      · rw [cif_pos hz] at q; exact ⟨b, rfl, rgOk_of hz, hf _ _ _ r1.rel q⟩
      · rw [cif_neg hz] at q; exact q.elim
    · exact q.elim
  | _ => exact q.elim
theorem s_lr1 (ha : SimE fa da) : SimE (fLr1 fa) (dLstRg1 false da) := fun c fs sl M ED Q r q => lr1_core (o := false) ha r q fun l s M r q => q _ M (r.imI _)
theorem s_lr1N (ha : SimE fa da) : SimE (fLr1N fa) (dLstRg1 true da) := fun c fs sl M ED Q r q => lr1_core (o := true) ha r q fun l s M r q => al_new (n := .lst l) rfl r q
theorem lr2_core {o : Bool} {fin : List D → Sl → R Sv} (ha : SimE fa da) (hb : SimE fb db) {c : Cz} {fs : Sl} {sl : Slots} {M : Mem} {ED : XD} {Q : DK} (r : Rel c fs sl M) (q : PoE c sl ED Q ((fa fs).bind fun w s => imK w fun x => (fb s).bind fun w s => imK w fun y => lrG fin x y s))
    (hf : ∀ l s M, Rel c s sl M → PoE c sl ED Q (fin l s) → al o (.lst l) M Q) : dLstRg2 o da db sl M ED Q := by
  refine ha c fs sl M ED _ r (poE_cases q fun w fs1 e q x M1 r1 => ?_)
  cases w with
  | im x' =>
    obtain rfl := r1.eq
    unfold imK at q
    dsimp only at q
    refine hb c fs1 sl M1 ED _ r1.rel (poE_cases q fun w fs2 e q y M2 r2 => ?_)
    cases w with
    | im y' =>
      obtain rfl := r2.eq
      dsimp only at q
      unfold lrG at q
      split at q
      · rename_i a b e1 e2
        by_cases hz : rgOkN a b
        · rw [cif_pos hz] at q; exact ⟨a, b, rfl, rfl, rgOk_of hz, hf _ _ _ r2.rel q⟩
        · rw [cif_neg hz] at q; exact q.elim
      · exact q.elim
    | _ => exact q.elim
  | _ => exact q.elim
theorem s_lr2 (ha : SimE fa da) (hb : SimE fb db) : SimE (fLr2 fa fb) (dLstRg2 false da db) := fun c fs sl M ED Q r q => lr2_core (o := false) ha hb r q fun l s M r q => q _ M (r.imI _)
theorem s_lr2N (ha : SimE fa da) (hb : SimE fb db) : SimE (fLr2N fa fb) (dLstRg2 true da db) := fun c fs sl M ED Q r q => lr2_core (o := true) ha hb r q fun l s M r q => al_new (n := .lst l) rfl r q
end
end F

/-! FPot: the pot of draws, as plain functions. -/
namespace Once
open PySem PySem.Spec L2 OD
def drawE (c : PotC) : Int :=
  let n1 := (c.ss.getD (c.t % (c.ss.length : Int)).toNat 0 * 7919 + 104729 * c.t + c.w * 31) * 48271 + 11
  let n2 := n1 % 2147483647 * (n1 % 2147483647 / 1009 + 69621)
  (n2 % 2147483629 * (n2 % 2147483629 / 2003 + 40692) + c.t) % 2147483399 / 64
def drawV (c : PotC) (n : Int) : Int × PotC := match c.gs with
  | x :: r => (x % n, if x < n then { c with gs := r, t := c.t + 1 } else { c with gs := x / n :: r, t := c.t + 1 })
  | [] => (drawE c % n, { c with t := c.t + 1 })
def fd_draw1 : FD := fun ds M _ Q => ∃ (p g s : Addr) (c : PotC) (n : Int), ds = [.ref p, .int n] ∧ M = potM p g s c ∧ c.ss ≠ [] ∧ 0 < n ∧ n.natAbs.log2 < 9000 ∧ Q (.int (drawV c n).1) (potM p g s (drawV c n).2)
theorem rd_draw1 : ∀ ds M (ED : XD) QD, fd_draw1 ds M ED QD → td_law_draw (outs M QD) (startD ["_law_pot_here", "_law_limit", "_law_turn", "_law_seed", "_law_number"] ds) M := by
  rintro ds M ED QD ⟨p, g, s, ⟨gs, ss, t, w⟩, n, rfl, rfl, hs, hn, hl, h⟩
  -- turn = pot[2]; pot[2] = turn + 1; if len(pot[0]) > 0
  refine ⟨_, rfl, 2, _, rfl, _, rfl, ?_⟩
  refine ⟨_, rfl, _, rfl, 2, _, rfl, 2, rfl, ?_⟩
  refine ⟨_, rfl, 2, _, rfl, _, rfl, 0, _, rfl, _, rfl, ite2 (fun e => ?_) (fun e => ?_)⟩
  · cases gs with
    | nil => exact absurd e (by simp)
    | cons x r =>
      -- number = pot[0][0]; pot[0][0] = number // limit; if number < limit: pot[0].pop(0); return int(number) % limit
      refine ⟨_, rfl, 2, _, rfl, _, rfl, 0, _, rfl, _, at0, ?_⟩
      refine ⟨_, rfl, _, rfl, ⟨hn, hl⟩, _, rfl, 2, _, rfl, _, rfl, 0, _, rfl, 0, ix0, ?_⟩
      have p0 : 0 ≤ x % n := Int.emod_nonneg _ (by omega)
      have p1 : x % n < n := Int.emod_lt_of_pos _ hn
      refine ⟨_, rfl, _, rfl, _, rfl, ite2 (fun e2 => ?_) (fun e2 => ?_)⟩
      · refine ⟨_, rfl, 2, _, rfl, _, rfl, ⟨0, _, rfl⟩, 0, _, rfl, by decide, by decide, 0, _, seq0, rfl, ?_⟩
        rw [show drawV ⟨x :: r, ss, t, w⟩ n = (x % n, ⟨r, ss, t + 1, w⟩) from by unfold drawV; dsimp only; rw [if_pos (of_decide_eq_true e2)]] at h
        exact ⟨_, rfl, _, rfl, hn, .all rfl h⟩
      · rw [show drawV ⟨x :: r, ss, t, w⟩ n = (x % n, ⟨x / n :: r, ss, t + 1, w⟩) from by unfold drawV; dsimp only; rw [if_neg fun z => e2 (decide_eq_true z)]] at h
        exact ⟨_, rfl, _, rfl, hn, .all rfl h⟩
  · -- seed = ..; number = .. (thrice); return ..
    have hl0 : 0 < (ss.length : Int) := by
      cases ss with
      | nil => exact absurd rfl hs
      | cons _ _ => simp
    have q0 : 0 ≤ t % (ss.length : Int) := Int.emod_nonneg _ (by omega)
    have q1 : t % (ss.length : Int) < ss.length := Int.emod_lt_of_pos _ hl0
    obtain ⟨j, hj⟩ : ∃ j : Nat, t % (ss.length : Int) = j := ⟨(t % (ss.length : Int)).toNat, by omega⟩
    have hjl : j < ss.length := by omega
    have hget : atI (ss.map D.int) (t % ((ss.map D.int).length : Int)) = some (D.int ss[j]) := by
      rw [List.length_map, hj]
      refine atI_nat ?_
      rw [List.getElem?_map, List.getElem?_eq_getElem hjl]
      rfl
    have md : ∀ i : Int, MulOk i 7919 ∧ MulOk 104729 i ∧ MulOk i 31 ∧ MulOk i 48271 := fun i =>
      ⟨.inl (.inr ⟨by decide, by decide⟩), .inl (.inl ⟨by decide, by decide⟩), .inl (.inr ⟨by decide, by decide⟩), .inl (.inr ⟨by decide, by decide⟩)⟩
    refine ⟨_, rfl, 2, _, rfl, _, rfl, _, rfl, _, rfl, 2, _, rfl, _, rfl, 1, _, rfl, by show 0 < (((ss.map D.int).length : Nat) : Int); rw [List.length_map]; exact hl0, 1, _, rfl, _, hget, (md _).1, _, rfl, (md _).2.1, _, rfl, 2, _, rfl, _, rfl, (md _).2.2.1, ?_⟩
    refine ⟨_, rfl, (md _).2.2.2, by decide, ?_⟩
    generalize h1 : (ss[j] * 7919 + 104729 * t + w * 31) * 48271 + 11 = n1
    have a0 : 0 ≤ n1 % 2147483647 := Int.emod_nonneg _ (by decide)
    have a1 : n1 % 2147483647 < 2147483647 := Int.emod_lt_of_pos _ (by decide)
    refine ⟨_, rfl, _, rfl, ⟨by decide, by decide⟩, .inl (.inl ⟨by show -(2 ^ 64) < n1 % 2147483647; omega, by show n1 % 2147483647 < 2 ^ 64; omega⟩), by decide, ?_⟩
    generalize h2 : n1 % 2147483647 * (n1 % 2147483647 / 1009 + 69621) = n2
    have b0 : 0 ≤ n2 % 2147483629 := Int.emod_nonneg _ (by decide)
    have b1 : n2 % 2147483629 < 2147483629 := Int.emod_lt_of_pos _ (by decide)
    refine ⟨_, rfl, _, rfl, ⟨by decide, by decide⟩, .inl (.inl ⟨by show -(2 ^ 64) < n2 % 2147483629; omega, by show n2 % 2147483629 < 2 ^ 64; omega⟩), _, rfl, by decide, ?_⟩
    refine ⟨_, rfl, ⟨by decide, by decide⟩, _, rfl, hn, ?_⟩
    have hg : gs = [] := by
      cases gs with
      | nil => rfl
      | cons x r => exact absurd (decide_eq_true (show (0 : Int) < (((x :: r).map D.int).length : Nat) by simp)) e
    subst hg
    have hd : ss.getD (t % (ss.length : Int)).toNat 0 = ss[j] := by
      rw [hj, Int.toNat_natCast, List.getD_eq_getElem?_getD, List.getElem?_eq_getElem hjl]; rfl
    have hv : drawV ⟨[], ss, t, w⟩ n = ((n2 % 2147483629 * (n2 % 2147483629 / 2003 + 40692) + t) % 2147483399 / 64 % n, ⟨[], ss, t + 1, w⟩) := by
      show (drawE ⟨[], ss, t, w⟩ % n, _) = _
      unfold drawE
      dsimp only
      rw [hd, h1, h2]
    rw [hv] at h
    exact .all rfl h

def potV (ns : List Int) : PotC :=
  let A := (ns.filter fun x => decide ((if x < 0 then -x else x) < 10 ^ 18)).map fun x => x % 1000000007
  ⟨(ns.filter fun x => decide (10 ^ 18 ≤ (if x < 0 then -x else x))).map fun x => if x < 0 then -x else x, A ++ [(ns.length : Int) + 1], 0, (A ++ [(ns.length : Int) + 1]).sum % 999983⟩
def fd_pot1 : FD := fun ds M _ Q => ∃ ns : List Int, ds = [.scr ns] ∧ M = [] ∧ ns.length ≤ 63 ∧ ∀ (p g s : Addr), [g, s, p].Nodup → ∀ c : PotC, c = potV ns → Q (.ref p) (potM p g s c)
theorem rd_pot1 : ∀ ds M (ED : XD) QD, fd_pot1 ds M ED QD → td_law_pot (outs M QD) (startD ["_law_script", "_law_cells", "_law_greats", "_law_smalls", "_law_item"] ds) M := by
  rintro ds M ED QD ⟨ns, rfl, rfl, hn, h⟩
  -- cells
  have hc : (cutL ns none (some 63)) = ns := by
    unfold cutL
    rw [HT.sIx_none, show HT.sIx ns.length ns.length (some 63) = min 63 ns.length from HT.sIx_nat _ _ 63]
    rw [List.drop_zero, List.take_of_length_le (by omega)]
  refine st_lc (ns := ns) (fun _ => true) id ?_ (by omega) ?_ ?_ ?_
  · intro RD hr
    refine ⟨_, rfl, _, rfl, ?_⟩
    show RD (itSeq ((cutL ns none (some 63)).map .int) _) _
    rw [hc]
    exact hr
  · exact fun x Q q => q
  · exact fun x Q q => ⟨_, rfl, q⟩
  have e1 : ((ns.filter fun _ => true).map id) = ns := by simp
  rw [e1]
  -- greats
  refine al_f ?_
  refine st_lc (ns := ns) (fun x => decide (10 ^ 18 ≤ (if x < 0 then -x else x))) (fun x => if x < 0 then -x else x) ?_ (by omega) ?_ ?_ ?_
  · exact fun RD hr => ⟨_, rfl, hr⟩
  · exact fun x Q q => ⟨_, rfl, ⟨by decide, by decide, by decide⟩, _, rfl, q⟩
  · exact fun x Q q => ⟨_, rfl, q⟩
  intro g hg
  -- smalls
  refine lc_ints (ns := ns) (fun x => decide ((if x < 0 then -x else x) < 10 ^ 18)) (fun x => x % 1000000007) ?_ (by omega) ?_ ?_ ?_
  · exact fun RD hr => ⟨_, rfl, hr⟩
  · exact fun x Q q => ⟨_, rfl, ⟨by decide, by decide, by decide⟩, _, rfl, q⟩
  · exact fun x Q q => ⟨_, rfl, by decide, q⟩
  have hz : ∀ l : List Int, (l.map D.int).length = l.length := fun l => List.length_map _
  generalize hA : ((ns.filter fun x => decide ((if x < 0 then -x else x) < 10 ^ 18)).map fun x => x % 1000000007) = A
  have hAl : A.length ≤ 63 := by
    rw [← hA, List.length_map]
    exact Nat.le_trans (List.length_filter_le _ _) hn
  refine ⟨_, rfl, small1 1 (by decide), ?_, ?_⟩
  · show (A.map D.int).length + 1 ≤ sizeLine
    rw [hz]
    exact small1 _ (by omega)
  intro s hs
  have hB : A.map D.int ++ [D.int (((ns.map D.int).length : Int) + 1)] = (A ++ [((ns.map D.int).length : Int) + 1]).map D.int := by rw [List.map_append]; rfl
  refine ⟨_, rfl, _, rfl, _, rfl, 1, _, rfl, _, hB, by decide, small1 4 (by decide), fun p hp => ?_⟩
  refine .all rfl ?_
  rw [hB]
  refine h p g s ?_ ⟨(ns.filter fun x => decide (10 ^ 18 ≤ (if x < 0 then -x else x))).map fun x => if x < 0 then -x else x, A ++ [((ns.map D.int).length : Int) + 1], 0, (A ++ [((ns.map D.int).length : Int) + 1]).sum % 999983⟩ ?_
  · have k1 : s ≠ g := fun z => hs (by rw [z]; simp [keys])
    have k2 : p ≠ g ∧ p ≠ s := by
      constructor <;> (intro z; exact hp (by rw [z]; simp [keys]))
    show [g, s, p].Nodup
    simp [Ne.symm k1, Ne.symm k2.1, Ne.symm k2.2]
  · show _ = potV ns
    unfold potV
    rw [hA]
    have : (ns.map D.int).length = ns.length := List.length_map _
    rw [this]

end Once
namespace F
open PySem PySem.Spec L2 OD Once
/-- a draw -/
def ff_law_draw : FF := fun args => match args with
  | [.pot c, .im (.int n)] => if c.ss ≠ [] ∧ 0 < n ∧ n.natAbs.log2 < 9000 then .ok (.im (.int (drawV c n).1)) [.pot (drawV c n).2, .im (.int n)] else .bad
  | _ => .bad
theorem draw_inv {args : List Sv} {r : Rs} (h : ff_law_draw args = r) (hb : r ≠ .bad) : ∃ c n, args = [.pot c, .im (.int n)] ∧ (c.ss ≠ [] ∧ 0 < n ∧ n.natAbs.log2 < 9000) ∧ r = .ok (.im (.int (drawV c n).1)) [.pot (drawV c n).2, .im (.int n)] := by
  unfold ff_law_draw at h
  split at h
  · rename_i c n
    by_cases hh : c.ss ≠ [] ∧ 0 < n ∧ n.natAbs.log2 < 9000
    · rw [if_pos hh] at h; exact ⟨c, n, rfl, hh, h.symm⟩
    · rw [if_neg hh] at h; exact absurd h.symm hb
  · exact absurd h.symm hb
theorem rd_law_draw : ∀ ds M ED QD, fdN 2 ff_law_draw ds M ED QD → td_law_draw (outs M QD) (startD ["_law_pot_here", "_law_many", "_law_turn", "_law_seed", "_law_number"] ds) M := by
  rintro ds M ED QD ⟨nd, args, Es, ha, he, rfl, h⟩
  refine rd_draw1 _ _ ED _ ?_
  have hb : ff_law_draw args ≠ .bad := fun z => by rw [z] at h; exact h
  obtain ⟨c, n, rfl, hh, e⟩ := draw_inv rfl hb
  rw [e] at h
  cases he with
  | cons h1 h2 =>
    cases h2 with
    | cons h2 h3 =>
      cases h3
      obtain ⟨rfl, rfl⟩ := h2
      obtain ⟨p, g, s, rfl, rfl, nd2⟩ := h1
      refine ⟨p, g, s, c, n, rfl, by simp, hh.1, hh.2.1, hh.2.2, ?_⟩
      have := h (.int (drawV c n).1) [] [potM p g s (drawV c n).2, []] (.cons ⟨p, g, s, rfl, rfl, nd2⟩ (.cons ⟨rfl, rfl⟩ .nil)) rfl ⟨rfl, rfl⟩
      simpa using this
def ff_law_pot : FF := fun args => match args with
  | [.im (.scr ns)] => if ns.length ≤ 63 then .ok (.pot (potV ns)) [.im (.scr ns)] else .bad
  | _ => .bad
theorem pot_inv {args : List Sv} {r : Rs} (h : ff_law_pot args = r) (hb : r ≠ .bad) : ∃ ns, args = [.im (.scr ns)] ∧ ns.length ≤ 63 ∧ r = .ok (.pot (potV ns)) [.im (.scr ns)] := by
  unfold ff_law_pot at h
  split at h
  · rename_i ns
    by_cases hh : ns.length ≤ 63
    · rw [if_pos hh] at h; exact ⟨ns, rfl, hh, h.symm⟩
    · rw [if_neg hh] at h; exact absurd h.symm hb
  · exact absurd h.symm hb
theorem rd_law_pot : ∀ ds M ED QD, fdN 1 ff_law_pot ds M ED QD → td_law_pot (outs M QD) (startD ["_law_script", "_law_cells", "_law_greats", "_law_smalls", "_law_item"] ds) M := by
  rintro ds M ED QD ⟨nd, args, Es, ha, he, rfl, h⟩
  refine rd_pot1 _ _ ED _ ?_
  have hb : ff_law_pot args ≠ .bad := fun z => by rw [z] at h; exact h
  obtain ⟨ns, rfl, hh, e⟩ := pot_inv rfl hb
  rw [e] at h
  cases he with
  | cons h1 h2 =>
    cases h2
    obtain ⟨rfl, rfl⟩ := h1
    refine ⟨ns, rfl, rfl, hh, fun p g s n c e => ?_⟩
    subst e
    have := h (.ref p) (potM p g s (potV ns)) [[]] (.cons ⟨rfl, rfl⟩ .nil) rfl ⟨p, g, s, rfl, rfl, n⟩
    simpa using this
/-! what a draw tells -/
theorem drawV_lo {c : PotC} {n : Int} (h : 0 < n) : 0 ≤ (drawV c n).1 := by
  unfold drawV
  split <;> exact Int.emod_nonneg _ (by omega)
theorem drawV_hi {c : PotC} {n : Int} (h : 0 < n) : (drawV c n).1 < n := by
  unfold drawV
  split <;> exact Int.emod_lt_of_pos _ h
theorem drawV_ss {c : PotC} {n : Int} : (drawV c n).2.ss = c.ss := by
  unfold drawV
  split
  · split <;> rfl
  · rfl
theorem potV_ss {ns : List Int} : (potV ns).ss ≠ [] := by
  unfold potV
  simp
end F

/-! FS: how plain functions are worked out. -/
namespace F
open PySem PySem.Spec L2 OD
@[simp] theorem rOk_eq (i : Int) : rOk i = (-4611686018427387904 ≤ i ∧ i < 4611686018427387904) := rfl
@[simp] theorem svN_lst (xs) : svN (.lst xs) = .lst xs := rfl
@[simp] theorem svN_dic (xs) : svN (.dic xs) = .dic xs := rfl
@[simp] theorem argSv_nil (s : Sl) : argSv s [] = some [] := rfl
@[simp] theorem argSv_inl (s : Sl) (d : D) (xs : List AD) : argSv s (.inl d :: xs) = (argSv s xs).map (.im d :: ·) := by
  show (match argSv s xs with | some r => some (Sv.im d :: r) | none => none) = _
  cases argSv s xs <;> rfl
@[simp] theorem argSv_r (s : Sl) (j : Nat) (xs : List AD) : argSv s (.inr j :: xs) = (match s[j]? with | some (some sv) => if isLok sv = true then none else (argSv s xs).map (sv :: ·) | _ => none) := by
  show (match s[j]?, argSv s xs with | some (some (.lok _ _)), _ => none | some (some sv), some r => some (sv :: r) | _, _ => none) = _
  cases s[j]? with
  | none => rfl
  | some o =>
    cases o with
    | none => rfl
    | some sv => cases sv <;> cases argSv s xs <;> rfl
@[simp] theorem isLok_im (d) : isLok (.im d) = false := rfl
@[simp] theorem isLok_lst (d) : isLok (.lst d) = false := rfl
@[simp] theorem isLok_dic (d) : isLok (.dic d) = false := rfl
@[simp] theorem isLok_ins (C d) : isLok (.ins C d) = false := rfl
@[simp] theorem isLok_pot (d) : isLok (.pot d) = false := rfl
@[simp] theorem owned_im (d) : owned (.im d) = false := rfl
@[simp] theorem owned_lst (d) : owned (.lst d) = true := rfl
@[simp] theorem owned_dic (d) : owned (.dic d) = true := rfl
@[simp] theorem owned_ins (C d) : owned (.ins C d) = true := rfl
@[simp] theorem owned_pot (d) : owned (.pot d) = true := rfl
@[simp] theorem isPot_im (d) : isPot (.im d) = false := rfl
@[simp] theorem isPot_lst (d) : isPot (.lst d) = false := rfl
@[simp] theorem isPot_dic (d) : isPot (.dic d) = false := rfl
@[simp] theorem isPot_ins (C d) : isPot (.ins C d) = false := rfl
@[simp] theorem ownJ_nil (s : Sl) : ownJ s [] = [] := rfl
@[simp] theorem ownJ_inl (s : Sl) (d : D) (xs : List AD) : ownJ s (.inl d :: xs) = ownJ s xs := rfl
@[simp] theorem ownJ_r (s : Sl) (j : Nat) (xs : List AD) : ownJ s (.inr j :: xs) = (match s[j]? with | some (some sv) => if owned sv = true then j :: ownJ s xs else ownJ s xs | _ => ownJ s xs) := rfl
@[simp] theorem back_nil (s0 : Sl) (os : List Sv) (s : Sl) : back s0 [] os s = s := by cases os <;> rfl
@[simp] theorem back_nil2 (s0 : Sl) (xs : List AD) (s : Sl) : back s0 xs [] s = s := by
  cases xs with
  | nil => rfl
  | cons x xs => cases x <;> rfl
@[simp] theorem back_inl (s0 : Sl) (d : D) (xs : List AD) (o : Sv) (os : List Sv) (s : Sl) : back s0 (.inl d :: xs) (o :: os) s = back s0 xs os s := rfl
@[simp] theorem back_r (s0 s : Sl) (j : Nat) (xs : List AD) (o : Sv) (os : List Sv) : back s0 (.inr j :: xs) (o :: os) s = (match s0[j]? with | some (some sv) => if owned sv = true then back s0 xs os (s.set j (some o)) else back s0 xs os s | _ => back s0 xs os s) := rfl
@[simp] theorem rsR_ok (s : Sl) (xs : List AD) (w : Sv) (outs : List Sv) : rsR s xs (.ok w outs) = .ok w (back s xs outs s) := rfl
theorem call_eq {n : Nat} {ff : FF} {xs : List AD} {s : Sl} {args : List Sv} {w : Sv} {outs : List Sv} (h : argSv s xs = some args) (hl : args.length = n) (hn : (ownJ s xs).Nodup) (e : ff args = .ok w outs) : call n ff xs s = .ok w (back s xs outs s) := by
  unfold call
  rw [h]
  dsimp only
  rw [if_pos ⟨hl, hn⟩, e]
  rfl
@[simp] theorem call_def (n : Nat) (ff : FF) (xs : List AD) (s : Sl) : call n ff xs s = (match argSv s xs with | some args => if args.length = n ∧ (ownJ s xs).Nodup then rsR s xs (ff args) else .bad | none => .bad) := rfl
@[simp] theorem outOf_nil (s : Sl) : outOf [] s = some [] := by cases s <;> rfl
@[simp] theorem outOf_cons (a : Sv) (as : List Sv) (o : Option Sv) (s : Sl) : outOf (a :: as) (o :: s) = (match outOf as s with | some os => if owned a = true then (match o with | some sv => if owned sv = true then some (sv :: os) else none | none => none) else some (a :: os) | none => none) := rfl
@[simp] theorem rsOf_nx (args : List Sv) (s : Sl) : rsOf args (.nx s) = (match outOf args s with | some os => .ok (.im .non) os | none => .bad) := rfl
@[simp] theorem rsOf_rt (args : List Sv) (w : Sv) (s : Sl) : rsOf args (.rt w s) = if isPot w = true then .bad else (match outOf args s with | some os => .ok w os | none => .bad) := rfl
theorem fDef_eq {np nl : Nat} {body : FS} {args : List Sv} (h : args.length = np) : fDef np nl body args = rsOf args (body (args.map some ++ List.replicate nl none)) := if_pos h
@[simp] theorem tyD_non  : tyD .non = some "NoneType" := rfl
@[simp] theorem tyD_bl (b : Bool) : tyD (.bl b) = some "bool" := rfl
@[simp] theorem tyD_int (b : Int) : tyD (.int b) = some "int" := rfl
@[simp] theorem tyD_str (b : Str) : tyD (.str b) = some "str" := rfl
@[simp] theorem tyD_lst (b : List D) : tyD (.lst b) = some "list" := rfl
@[simp] theorem tyD_tup (b : List D) : tyD (.tup b) = some "tuple" := rfl
@[simp] theorem tyD_dic (b : List (Key × D)) : tyD (.dic b) = some "dict" := rfl
@[simp] theorem kit_NoneType_int : kitB "NoneType" "int" = some false := by decide +kernel
@[simp] theorem kit_NoneType_bool : kitB "NoneType" "bool" = some false := by decide +kernel
@[simp] theorem kit_NoneType_str : kitB "NoneType" "str" = some false := by decide +kernel
@[simp] theorem kit_NoneType_list : kitB "NoneType" "list" = some false := by decide +kernel
@[simp] theorem kit_NoneType_tuple : kitB "NoneType" "tuple" = some false := by decide +kernel
@[simp] theorem kit_NoneType_dict : kitB "NoneType" "dict" = some false := by decide +kernel
@[simp] theorem kit_bool_int : kitB "bool" "int" = some true := by decide +kernel
@[simp] theorem kit_bool_bool : kitB "bool" "bool" = some true := by decide +kernel
@[simp] theorem kit_bool_str : kitB "bool" "str" = some false := by decide +kernel
@[simp] theorem kit_bool_list : kitB "bool" "list" = some false := by decide +kernel
@[simp] theorem kit_bool_tuple : kitB "bool" "tuple" = some false := by decide +kernel
@[simp] theorem kit_bool_dict : kitB "bool" "dict" = some false := by decide +kernel
@[simp] theorem kit_int_int : kitB "int" "int" = some true := by decide +kernel
@[simp] theorem kit_int_bool : kitB "int" "bool" = some false := by decide +kernel
@[simp] theorem kit_int_str : kitB "int" "str" = some false := by decide +kernel
@[simp] theorem kit_int_list : kitB "int" "list" = some false := by decide +kernel
@[simp] theorem kit_int_tuple : kitB "int" "tuple" = some false := by decide +kernel
@[simp] theorem kit_int_dict : kitB "int" "dict" = some false := by decide +kernel
@[simp] theorem kit_str_int : kitB "str" "int" = some false := by decide +kernel
@[simp] theorem kit_str_bool : kitB "str" "bool" = some false := by decide +kernel
@[simp] theorem kit_str_str : kitB "str" "str" = some true := by decide +kernel
@[simp] theorem kit_str_list : kitB "str" "list" = some false := by decide +kernel
@[simp] theorem kit_str_tuple : kitB "str" "tuple" = some false := by decide +kernel
@[simp] theorem kit_str_dict : kitB "str" "dict" = some false := by decide +kernel
@[simp] theorem kit_list_int : kitB "list" "int" = some false := by decide +kernel
@[simp] theorem kit_list_bool : kitB "list" "bool" = some false := by decide +kernel
@[simp] theorem kit_list_str : kitB "list" "str" = some false := by decide +kernel
@[simp] theorem kit_list_list : kitB "list" "list" = some true := by decide +kernel
@[simp] theorem kit_list_tuple : kitB "list" "tuple" = some false := by decide +kernel
@[simp] theorem kit_list_dict : kitB "list" "dict" = some false := by decide +kernel
@[simp] theorem kit_tuple_int : kitB "tuple" "int" = some false := by decide +kernel
@[simp] theorem kit_tuple_bool : kitB "tuple" "bool" = some false := by decide +kernel
@[simp] theorem kit_tuple_str : kitB "tuple" "str" = some false := by decide +kernel
@[simp] theorem kit_tuple_list : kitB "tuple" "list" = some false := by decide +kernel
@[simp] theorem kit_tuple_tuple : kitB "tuple" "tuple" = some true := by decide +kernel
@[simp] theorem kit_tuple_dict : kitB "tuple" "dict" = some false := by decide +kernel
@[simp] theorem kit_dict_int : kitB "dict" "int" = some false := by decide +kernel
@[simp] theorem kit_dict_bool : kitB "dict" "bool" = some false := by decide +kernel
@[simp] theorem kit_dict_str : kitB "dict" "str" = some false := by decide +kernel
@[simp] theorem kit_dict_list : kitB "dict" "list" = some false := by decide +kernel
@[simp] theorem kit_dict_tuple : kitB "dict" "tuple" = some false := by decide +kernel
@[simp] theorem kit_dict_dict : kitB "dict" "dict" = some true := by decide +kernel
theorem rsOf_ok {args : List Sv} {w : Sv} {s : Sl} {os : List Sv} (hp : isPot w = false) (h : outOf args s = some os) : rsOf args (.rt w s) = .ok w os := by
  rw [rsOf_rt, hp, if_neg Bool.false_ne_true, h]
/-! numbered items -/
def enumP : Nat → List D → List D
  | _, [] => []
  | p, x :: xs => .tup [.int p, x] :: enumP (p + 1) xs
@[simp] theorem enumP_nil (p : Nat) : enumP p [] = [] := rfl
@[simp] theorem enumP_cons (p : Nat) (x : D) (xs : List D) : enumP p (x :: xs) = .tup [.int p, x] :: enumP (p + 1) xs := rfl
theorem mapIdx_P : ∀ (xs : List D) (p : Nat), xs.mapIdx (fun i x => D.tup [.int ((p + i : Nat) : Int), x]) = enumP p xs := by
  intro xs
  induction xs with
  | nil => intro p; rfl
  | cons x xs ih =>
    intro p
    rw [List.mapIdx_cons, enumP_cons, ← ih (p + 1)]
    congr 1
    congr 1
    funext i x
    rw [show p + (i + 1) = p + 1 + i by omega]
theorem enumL_P (xs : List D) : enumL xs = enumP 0 xs := by
  rw [← mapIdx_P xs 0]
  unfold enumL
  congr 1
  funext i x
  rw [Nat.zero_add]
/-! loops -/
theorem forL_cons {tg : FG} {body : FS} {x : D} {xs : List D} {s s1 : Sl} (h : tg x s = some s1) : forL tg body (x :: xs) s = (match body s1 with
      | .nx s => forL tg body xs s
      | .ct s => forL tg body xs s
      | .bk s => .nx s
      | o => o) := by
  show (match tg x s with
    | some s => (match body s with
      | .nx s => forL tg body xs s
      | .ct s => forL tg body xs s
      | .bk s => .nx s
      | o => o)
    | none => .bad) = _
  rw [h]
theorem forL_step {tg : FG} {body : FS} {x : D} {xs : List D} {s s1 s2 : Sl} (h : tg x s = some s1) (hb : body s1 = .nx s2) : forL tg body (x :: xs) s = forL tg body xs s2 := by
  rw [forL_cons h, hb]
/-- a loop that runs through: W by the turn -/
theorem forL_inv {tg : FG} {body : FS} {xs : List D} {s : Sl} (W : Nat → Sl → Prop) (h0 : W 0 s) (hs : ∀ j (hj : j < xs.length) s, W j s → ∃ s1 s2, tg xs[j] s = some s1 ∧ body s1 = .nx s2 ∧ W (j + 1) s2) : ∃ s', forL tg body xs s = .nx s' ∧ W xs.length s' := by
  induction xs generalizing s W with
  | nil => exact ⟨s, rfl, h0⟩
  | cons x r ih =>
    obtain ⟨s1, s2, h1, h2, h3⟩ := hs 0 (by simp) s h0
    obtain ⟨s', h4, h5⟩ := ih (fun j => W (j + 1)) h3 fun j hj s w => hs (j + 1) (by simp; omega) s w
    exact ⟨s', by rw [forL_step (x := x) h1 h2]; exact h4, h5⟩
/-- a loop whose state is told -/
theorem forL_st {tg : FG} {body : FS} {xs : List D} (st : Nat → Sl) (hs : ∀ j (hj : j < xs.length), ∃ s1, tg xs[j] (st j) = some s1 ∧ body s1 = .nx (st (j + 1))) : forL tg body xs (st 0) = .nx (st xs.length) := by
  obtain ⟨s', h1, h2⟩ := forL_inv (tg := tg) (body := body) (xs := xs) (fun j s => s = st j) rfl fun j hj s w => by
    subst w
    obtain ⟨s1, a, b⟩ := hs j hj
    exact ⟨s1, _, a, b, rfl⟩
  rw [h1, h2]
/-! comprehensions -/
theorem lcL_all {vs : List Nat} {tg : FG} {t : FT} {e : FE} {g : D → D} {s0 : Sl} : ∀ {xs : List D} {s : Sl} {acc : List D}, wipeF s vs = s0 → acc.length + xs.length ≤ 16777216 →
    (∀ x ∈ xs, ∃ s1 s2 s3, tg x s0 = some s1 ∧ t s1 = .ok true s2 ∧ e s2 = .ok (.im (g x)) s3 ∧ wipeF s3 vs = s0) → ∃ s', lcL vs tg t e xs s acc = .ok (acc ++ xs.map g) s' ∧ wipeF s' vs = s0 := by
  intro xs
  induction xs with
  | nil => intro s acc h _ _; exact ⟨s, by simp, h⟩
  | cons x xs ih =>
    intro s acc h hl hx
    obtain ⟨s1, s2, s3, h1, h2, h3, h4⟩ := hx x (by simp)
    rw [List.length_cons] at hl
    obtain ⟨s', g1, g2⟩ := ih (s := s3) (acc := acc ++ [g x]) h4 (by rw [List.length_append, List.length_singleton]; omega) fun y hy => hx y (List.mem_cons_of_mem _ hy)
    refine ⟨s', ?_, g2⟩
    unfold lcL
    rw [h, h1]
    dsimp only
    rw [h2, nox_ok, ok_bind, if_pos rfl, h3, nox_ok, ok_bind]
    show cif (acc.length < 16777216) _ _ = _
    rw [cif_pos (by omega), g1]
    simp
/-- .. some are left out -/
theorem lcL_some {vs : List Nat} {tg : FG} {t : FT} {e : FE} {p : D → Bool} {g : D → D} {s0 : Sl} : ∀ {xs : List D} {s : Sl} {acc : List D}, wipeF s vs = s0 → acc.length + xs.length ≤ 16777216 →
    (∀ x ∈ xs, ∃ s1 s2, tg x s0 = some s1 ∧ t s1 = .ok (p x) s2 ∧ wipeF s2 vs = s0 ∧ (p x = true → ∃ s3, e s2 = .ok (.im (g x)) s3 ∧ wipeF s3 vs = s0)) → ∃ s', lcL vs tg t e xs s acc = .ok (acc ++ (xs.filter p).map g) s' ∧ wipeF s' vs = s0 := by
  intro xs
  induction xs with
  | nil => intro s acc h _ _; exact ⟨s, by simp, h⟩
  | cons x xs ih =>
    intro s acc h hl hx
    obtain ⟨s1, s2, h1, h2, h3, h4⟩ := hx x (by simp)
    rw [List.length_cons] at hl
    unfold lcL
    rw [h, h1]
    dsimp only
    rw [h2, nox_ok, ok_bind]
    cases hp : p x with
    | true =>
      obtain ⟨s3, h5, h6⟩ := h4 hp
      obtain ⟨s', g1, g2⟩ := ih (s := s3) (acc := acc ++ [g x]) h6 (by rw [List.length_append, List.length_singleton]; omega) fun y hy => hx y (List.mem_cons_of_mem _ hy)
      refine ⟨s', ?_, g2⟩
      rw [if_pos rfl, h5, nox_ok, ok_bind]
      show cif (acc.length < 16777216) _ _ = _
      rw [cif_pos (by omega), g1, List.filter_cons_of_pos hp]
      simp
    | false =>
      obtain ⟨s', g1, g2⟩ := ih (s := s2) (acc := acc) h3 (by omega) fun y hy => hx y (List.mem_cons_of_mem _ hy)
      refine ⟨s', ?_, g2⟩
      rw [if_neg Bool.false_ne_true, g1, List.filter_cons_of_neg (by rw [hp]; exact Bool.false_ne_true)]
end F

/-! FEq: == of plain data. -/
namespace F
open PySem PySem.Spec L2 OD
/-- plain data, so deep: no flags within -/
def pl : Nat → D → Bool
  | _, .non => true
  | _, .int _ => true
  | _, .str s => s.cps.all (· < 0x110000)
  | k + 1, .tup xs => xs.all (pl k)
  | k + 1, .lst xs => xs.all (pl k)
  | _, _ => false
theorem pl_py : ∀ (k : Nat) (d : D), pl k d = true → ∃ p, toPy d = some p ∧ p.canLay0 = true ∧ p.depth ≤ k := by
  have row : ∀ (k : Nat), (∀ (d : D), pl k d = true → ∃ p, toPy d = some p ∧ p.canLay0 = true ∧ p.depth ≤ k) → ∀ xs : List D, xs.all (pl k) = true → ∃ ps, toPys xs = some ps ∧ PyData.canLayAll0 ps = true ∧ PyData.depthAll ps ≤ k := by
    intro k h xs
    induction xs with
    | nil => intro _; exact ⟨[], rfl, by simp [PyData.canLayAll0], by simp [PyData.depthAll]⟩
    | cons x xs ih =>
      intro hx
      rw [List.all_cons, Bool.and_eq_true] at hx
      obtain ⟨p, a1, a2, a3⟩ := h x hx.1
      obtain ⟨ps, b1, b2, b3⟩ := ih hx.2
      exact ⟨p :: ps, by simp [toPys, a1, b1], by simp [PyData.canLayAll0, a2, b2], by simp [PyData.depthAll]; omega⟩
  intro k
  induction k with
  | zero =>
    intro d h
    cases d with
    | non => exact ⟨_, rfl, by simp [PyData.canLay0], by simp [PyData.depth]⟩
    | int i => exact ⟨_, rfl, by simp [PyData.canLay0], by simp [PyData.depth]⟩
    | str s => exact ⟨_, rfl, by unfold pl at h; simpa [PyData.canLay0, PyData.strOk] using h, by simp [PyData.depth]⟩
    | _ => cases h
  | succ k ih =>
    intro d h
    cases d with
    | non => exact ⟨_, rfl, by simp [PyData.canLay0], by simp [PyData.depth]⟩
    | int i => exact ⟨_, rfl, by simp [PyData.canLay0], by simp [PyData.depth]⟩
    | str s => exact ⟨_, rfl, by unfold pl at h; simpa [PyData.canLay0, PyData.strOk] using h, by simp [PyData.depth]⟩
    | tup xs =>
      obtain ⟨ps, a1, a2, a3⟩ := row k ih xs (by unfold pl at h; exact h)
      exact ⟨.tuple ps, by simp [toPy, a1], by simp [PyData.canLay0, a2], by simp [PyData.depth]; omega⟩
    | lst xs =>
      obtain ⟨ps, a1, a2, a3⟩ := row k ih xs (by unfold pl at h; exact h)
      exact ⟨.list ps, by simp [toPy, a1], by simp [PyData.canLay0, a2], by simp [PyData.depth]; omega⟩
    | _ => cases h
theorem pl_eqv : ∀ (k : Nat) (a b : D) (p q : PyData), pl k a = true → pl k b = true → toPy a = some p → toPy b = some q → (PyData.eqv p q = true ↔ a = b) := by
  have row : ∀ (k : Nat), (∀ (a b : D) (p q : PyData), pl k a = true → pl k b = true → toPy a = some p → toPy b = some q → (PyData.eqv p q = true ↔ a = b)) → ∀ (xs ys : List D) (ps qs : List PyData), xs.all (pl k) = true → ys.all (pl k) = true → toPys xs = some ps → toPys ys = some qs → (PyData.eqvAll ps qs = true ↔ xs = ys) := by
    intro k h xs
    induction xs with
    | nil =>
      intro ys ps qs _ _ e1 e2
      cases e1
      cases ys with
      | nil => cases e2; simp [PyData.eqvAll]
      | cons y ys =>
        unfold toPys at e2
        cases ey : toPy y with
        | none => rw [ey] at e2; cases e2
        | some q =>
          cases eys : toPys ys with
          | none => rw [ey, eys] at e2; cases e2
          | some qs' => rw [ey, eys] at e2; cases e2; simp [PyData.eqvAll]
    | cons x xs ih =>
      intro ys ps qs hx hy e1 e2
      rw [List.all_cons, Bool.and_eq_true] at hx
      unfold toPys at e1
      cases ex : toPy x with
      | none => rw [ex] at e1; cases e1
      | some p =>
        cases exs : toPys xs with
        | none => rw [ex, exs] at e1; cases e1
        | some ps' =>
          rw [ex, exs] at e1
          cases e1
          cases ys with
          | nil => cases e2; simp [PyData.eqvAll]
          | cons y ys =>
            rw [List.all_cons, Bool.and_eq_true] at hy
            unfold toPys at e2
            cases ey : toPy y with
            | none => rw [ey] at e2; cases e2
            | some q =>
              cases eys : toPys ys with
              | none => rw [ey, eys] at e2; cases e2
              | some qs' =>
                rw [ey, eys] at e2
                cases e2
                simp only [PyData.eqvAll, Bool.and_eq_true, h x y p q hx.1 hy.1 ex ey, ih ys ps' qs' hx.2 hy.2 exs eys, List.cons.injEq]
  intro k
  induction k with
  | zero =>
    intro a b p q ha hb ea eb
    cases a <;> first
      | (cases ha; done)
      | (cases b <;> first
        | (cases hb; done)
        | (cases ea; cases eb; simp [PyData.eqv]))
  | succ k ih =>
    intro a b p q ha hb ea eb
    have tp : ∀ (xs : List D) (p : PyData), toPy (.tup xs) = some p → ∃ ps, toPys xs = some ps ∧ p = .tuple ps := by
      intro xs p e
      unfold toPy at e
      cases h : toPys xs with
      | none => rw [h] at e; cases e
      | some ps => rw [h] at e; cases e; exact ⟨ps, rfl, rfl⟩
    have tl : ∀ (xs : List D) (p : PyData), toPy (.lst xs) = some p → ∃ ps, toPys xs = some ps ∧ p = .list ps := by
      intro xs p e
      unfold toPy at e
      cases h : toPys xs with
      | none => rw [h] at e; cases e
      | some ps => rw [h] at e; cases e; exact ⟨ps, rfl, rfl⟩
    cases a with
    | tup xs =>
      obtain ⟨ps, e1, rfl⟩ := tp xs p ea
      cases b with
      | tup ys =>
        obtain ⟨qs, e2, rfl⟩ := tp ys q eb
        simp only [PyData.eqv, row k ih xs ys ps qs ha hb e1 e2, D.tup.injEq]
      | lst ys =>
        obtain ⟨qs, e2, rfl⟩ := tl ys q eb
        simp [PyData.eqv]
      | non => cases eb; simp [PyData.eqv]
      | int i => cases eb; simp [PyData.eqv]
      | str s => cases eb; simp [PyData.eqv]
      | _ => cases hb
    | lst xs =>
      obtain ⟨ps, e1, rfl⟩ := tl xs p ea
      cases b with
      | tup ys =>
        obtain ⟨qs, e2, rfl⟩ := tp ys q eb
        simp [PyData.eqv]
      | lst ys =>
        obtain ⟨qs, e2, rfl⟩ := tl ys q eb
        simp only [PyData.eqv, row k ih xs ys ps qs ha hb e1 e2, D.lst.injEq]
      | non => cases eb; simp [PyData.eqv]
      | int i => cases eb; simp [PyData.eqv]
      | str s => cases eb; simp [PyData.eqv]
      | _ => cases hb
    | non =>
      cases ea
      cases b with
      | tup ys => obtain ⟨qs, e2, rfl⟩ := tp ys q eb; simp [PyData.eqv]
      | lst ys => obtain ⟨qs, e2, rfl⟩ := tl ys q eb; simp [PyData.eqv]
      | non => cases eb; simp [PyData.eqv]
      | int i => cases eb; simp [PyData.eqv]
      | str s => cases eb; simp [PyData.eqv]
      | _ => cases hb
    | int i =>
      cases ea
      cases b with
      | tup ys => obtain ⟨qs, e2, rfl⟩ := tp ys q eb; simp [PyData.eqv]
      | lst ys => obtain ⟨qs, e2, rfl⟩ := tl ys q eb; simp [PyData.eqv]
      | non => cases eb; simp [PyData.eqv]
      | int i => cases eb; simp [PyData.eqv]
      | str s => cases eb; simp [PyData.eqv]
      | _ => cases hb
    | str s =>
      cases ea
      cases b with
      | tup ys => obtain ⟨qs, e2, rfl⟩ := tp ys q eb; simp [PyData.eqv]
      | lst ys => obtain ⟨qs, e2, rfl⟩ := tl ys q eb; simp [PyData.eqv]
      | non => cases eb; simp [PyData.eqv]
      | int i => cases eb; simp [PyData.eqv]
      | str s => cases eb; simp [PyData.eqv]
      | _ => cases hb
    | _ => cases ha
/-- == of plain data is being the same -/
theorem eqW_same {a : D} (k : Nat) (hk : k ≤ 64) (h : pl k a = true) : eqW a a = some true := by
  obtain ⟨p, e1, e2, e3⟩ := pl_py k a h
  have e4 := (pl_eqv k a a p p h h e1 e1).mpr rfl
  unfold eqW
  cases e : eqS a a with
  | some c => cases a <;> first | (cases e; done) | (simp [eqS] at e; simp [← e])
  | none =>
    dsimp only
    rw [e1]
    dsimp only
    have hs : SeqAt.shaped p = true := by unfold SeqAt.shaped; rw [e2, Bool.true_and]; exact decide_eq_true (by omega)
    rw [hs]
    simp [e4]
theorem eqW_not {a b : D} (k : Nat) (hk : k ≤ 64) (h : pl k a = true) (hb : pl k b = true) (n : a ≠ b) : eqW a b = some false := by
  obtain ⟨p, e1, e2, e3⟩ := pl_py k a h
  obtain ⟨q, f1, f2, f3⟩ := pl_py k b hb
  have e4 : PyData.eqv p q = false := by
    cases e : PyData.eqv p q with
    | false => rfl
    | true => exact absurd ((pl_eqv k a b p q h hb e1 f1).mp e) n
  have hs : SeqAt.shaped p = true := by unfold SeqAt.shaped; rw [e2, Bool.true_and]; exact decide_eq_true (by omega)
  have hs2 : SeqAt.shaped q = true := by unfold SeqAt.shaped; rw [f2, Bool.true_and]; exact decide_eq_true (by omega)
  unfold eqW
  cases e : eqS a b with
  | some c =>
    cases a <;> cases b <;> first
      | (cases e; done)
      | (cases h; done)
      | (cases hb; done)
      | (cases e; rfl)
      | (exact absurd rfl n)
      | (simp [eqS] at e; rw [← e]; simp; intro z; exact n (by rw [z]))
  | none =>
    dsimp only
    rw [e1, f1]
    dsimp only
    rw [hs, hs2]
    simp [e4]
end F

/-! OD19: dicts that are equal. -/
namespace OD
open PySem PySem.Spec L2
section
variable {X : Cx} {K : PySem.W.Frag}
def rEqDR (n : Bool) : R2 := fun x y H Q => ∃ a b ks ls, x = .ref a ∧ y = .ref b ∧ Rd H a (.dK ks) ∧ Rd H b (.dK ls) ∧ ks.length = ls.length ∧ (∀ p ∈ ks, valV ls p.1 = some p.2 ∧ flatB p.2 = true) ∧ Q (.bl n) H
theorem op_eqDR (hu : X.A.units < cLine) : OpR X (compareOp .Eq) (rEqDR true) := by
  intro pins s σ H x y v u Q I rx ry h
  obtain ⟨a, b, ks, ls, rfl, rfl, ea, eb, hlen, hp, q⟩ := h
  obtain rfl : v = Value.ref a := rx
  obtain rfl : u = Value.ref b := ry
  obtain ⟨_, ya, va, ra, da⟩ := (show ObjOk X.prog X.w H s.heap a (.dK ks) from ea.ok I.hok)
  obtain ⟨_, yb, vb, rb, db⟩ := (show ObjOk X.prog X.w H s.heap b (.dK ls) from eb.ok I.hok)
  have hl : va.length = vb.length := by rw [← ra.length, ← rb.length]; exact hlen
  exact PySem.W.keq_eq (knd := mixKind X.prog X.w) (r := true) ya yb da db hu (fun _ => hits_all rb ra hp) (fin_bl I q (by simp [hl]))
theorem op_neDR (hu : X.A.units < cLine) : OpR X (compareOp .NotEq) (rEqDR false) := by
  intro pins s σ H x y v u Q I rx ry h
  obtain ⟨a, b, ks, ls, rfl, rfl, ea, eb, hlen, hp, q⟩ := h
  obtain rfl : v = Value.ref a := rx
  obtain rfl : u = Value.ref b := ry
  obtain ⟨_, ya, va, ra, da⟩ := (show ObjOk X.prog X.w H s.heap a (.dK ks) from ea.ok I.hok)
  obtain ⟨_, yb, vb, rb, db⟩ := (show ObjOk X.prog X.w H s.heap b (.dK ls) from eb.ok I.hok)
  have hl : va.length = vb.length := by rw [← ra.length, ← rb.length]; exact hlen
  exact PySem.W.keq_ne (knd := mixKind X.prog X.w) (r := true) ya yb da db hu (fun _ => hits_all rb ra hp) (fin_bl I q (by simp [hl]))
def flatD : D → Bool
  | .non => true | .bl _ => true | .int _ => true | .str _ => true
  | _ => false
theorem flat_rep {S : Mark} {H : Hp} {v v' : V} {d : D} (h : flatD d = true) (r : Rep K S H v d) (r' : Rep K S H v' d) : v' = v ∧ flatB v = true := by
  cases r <;> first | (cases h; done) | (cases r'; exact ⟨rfl, rfl⟩)
/-- equal dicts: the same keys, the same plain values -/
def eqKD (n : Bool) (x y : D) (M : Mem) (Q : DK) : Prop := ∃ ks ls, x = .dic ks ∧ y = .dic ls ∧ ks.length = ls.length ∧ (∀ p ∈ ks, lookD ls p.1 = some p.2 ∧ flatD p.2 = true) ∧ Q (.bl n) M
theorem RepsK.mem {S : Mark} {H : Hp} : ∀ {kvs : List (Key × D)} {ws : List (Key × V)}, RepsK K S H ws kvs → ∀ w ∈ ws, ∃ d, (w.1, d) ∈ kvs ∧ Rep K S H w.2 d := by
  intro kvs
  induction kvs with
  | nil => intro ws h w hw; cases h; cases hw
  | cons p r ih =>
    intro ws h w hw
    cases h with
    | cons a b =>
      rcases List.mem_cons.mp hw with e | e
      · subst e; exact ⟨_, List.mem_cons_self, a⟩
      · obtain ⟨d, h1, h2⟩ := ih b w e
        exact ⟨d, List.mem_cons_of_mem _ h1, h2⟩
theorem sv_eqK {n : Bool} : SimV2 K (rEqDR n) (eqKD n) := by
  intro S0 M H x y dx dy Q QD m rx ry h l
  obtain ⟨ks, ls, rfl, rfl, hl, hp, q⟩ := h
  obtain ⟨a, va, rfl, h1, r1⟩ := rx.dic_inv
  obtain ⟨b, vb, rfl, h2, r2⟩ := ry.dic_inv
  refine ⟨a, b, va, vb, rfl, rfl, h1, h2, by rw [r1.length, r2.length]; exact hl, fun w hw => ?_, l.now m (.bl _) q⟩
  obtain ⟨d, e1, e2⟩ := r1.mem w hw
  obtain ⟨g1, g2⟩ := hp _ e1
  obtain ⟨v, g3, g4⟩ := r2.val g1
  obtain ⟨g5, g6⟩ := flat_rep g2 e2 g4
  exact ⟨by rw [g3, g5], g6⟩
end
section
open PyProof.Rows
variable {X : Cx} {E : L2.St → XK} {tg iter : Expr} {pos : Pos}
theorem sw_trueD {kx vx : Expr} {gs : List Comprehension} {scope : Scope} {pos py : Pos} {y : Str} {l : Nat} {env : Env} (hk : env.scope.kind = .function) (hy : env.scope.names.lookup y = some .local) (hl : (py.line == pos.line) = true)
    (ha : (scope.names.any fun (n, k) => n == y && (k == .local || k == .cell)) = false) : swapsWith (.DictComp kx vx gs scope pos) (some (.Name y py)) l env = pure true := by
  have ky : env.kindOf y = some .local := hy
  have hb : env.blockKind = .function := by unfold Env.blockKind; rw [hk]; rfl
  unfold swapsWith
  simp only [hb, ky, ha, Expr.pos, hl]
  rfl
/-- y = {k: v for ..} -/
theorem ps_setDc {i : Nat} {y : Str} {py : Pos} {kx vx tg iter : Expr} {ifs : List Expr} {scope : Scope} {own : List (Str × Nat)} {pos spos : Pos} {wi : TI} {g : TG} {tt : TT} {tk tv : TE} (hc : X.calm = true) (hN : X.N.Nodup) (hy : X.N[i]? = some y) (hyl : X.env.scope.names.lookup y = some .local)
    (hsw : swapsWith (.DictComp kx vx [⟨tg, iter, ifs, 0⟩] scope pos) (some (.Name y py)) spos.line X.env = pure true) (hi : PI X tg iter wi) (ok : BlkOk X.N X.env.scope scope own)
    (hg : ∀ (s : Shared) (H : Hp) (C : Addr) (cl : List (Str × Addr)) (fp : List Addr), PG (X.blk s H scope (compEnvC scope cl C X.env) fp) tg g) (ht : ∀ (s : Shared) (H : Hp) (C : Addr) (cl : List (Str × Addr)) (fp : List Addr), PTs (X.blk s H scope (compEnvC scope cl C X.env) fp) ifs tt)
    (hk : ∀ (s : Shared) (H : Hp) (C : Addr) (cl : List (Str × Addr)) (fp : List Addr), PE (X.blk s H scope (compEnvC scope cl C X.env) fp) kx tk)
    (he : ∀ (s : Shared) (H : Hp) (C : Addr) (cl : List (Str × Addr)) (fp : List Addr), PE (X.blk s H scope (compEnvC scope cl C X.env) fp) vx tv) (hs : ∀ x, foldedSetIterable iter X.env x = pure x := by intro _; rfl) :
    PS X (.Assign [.Name y py] (.DictComp kx vx [⟨tg, iter, ifs, 0⟩] scope pos) spos) (tAsg (tDc wi g tt tk tv (own.map (·.2))) (gName i)) := by
  refine ⟨fun pins s σ H D I h => ?_⟩
  rw [exec_Assign_Name_used _ _ _ _ hsw]
  refine wpAny_bind (wpAny_standAt (wpAny_bind ?_))
  show wpAny _ X.A (do let _ ← comprehension (.DictComp kx vx [⟨tg, iter, ifs, 0⟩] scope pos) scope X.env (firstIterPos [⟨tg, iter, ifs, 0⟩] pos) newDict false (eval iter X.env) (some (assign (.Name y py) X.env))) _ _ s
  have h : tDc wi g tt tk tv (own.map (·.2)) σ H (fun x H1 => gName i x σ H1 D.nx) := h
  refine wpAny_bind (thn (dc_core (Qf := fun _ s' => SP X pins D .next s') hc hN I hi ok hg ht hk he hs h fun L C s' m H' I' q hn f => ?_) fun _ s' hq => wpAny_pure (wpAny_pure hq))
  show wpAny _ _ (assign (.Name y py) X.env (.ref L)) _ _ _
  refine wpAny_assign_Name (store_ok2 (v := V.ref L) I' hN hy (.inl hyl) rfl (fun s2 I2 ⟨a, sb, ha⟩ => ?_) (.inr hyl))
  obtain ⟨f0, f1, f2, f3, f4, f5⟩ := f
  have haC : C ≠ a := by
    rcases ha with z | z
    · rw [z]; exact f1
    · exact fun e => f4 y a z e.symm
  refine ⟨m, hn.sameBut sb haC, fun h3 sb3 => ?_⟩
  exact ⟨_, H', I2.turned (t' := s2.toks) (fun b o hb e => (sb3.2 b hb).trans e) f0 f1 f3 f4 f5, q⟩
theorem ds_setDc (o : Bool) {i : Nat} {y : Str} {py spos : Pos} {scope : Scope} {own : List (Str × Nat)} {ifs : List Expr} {kx elt : Expr} {di : DI} {dg : DG} {tt : DT} {tk te : DE} (hc : X.calm = true) (hN : X.N.Nodup) (hi : DIx X E tg iter di) (ok : BlkOk X.N X.env.scope scope own)
    (hg : ∀ (s : Shared) (H : Hp) (C : Addr) (cl : List (Str × Addr)) (fp : List Addr), DCx (X.blk s H scope (compEnvC scope cl C X.env) fp) tg (own.map (·.2)) dg)
    (ht : ∀ (s : Shared) (H : Hp) (C : Addr) (cl : List (Str × Addr)) (fp : List Addr), DPx (X.blk s H scope (compEnvC scope cl C X.env) fp) (fun _ => E0) ifs tt)
    (hk : ∀ (s : Shared) (H : Hp) (C : Addr) (cl : List (Str × Addr)) (fp : List Addr), DEx (X.blk s H scope (compEnvC scope cl C X.env) fp) (fun _ => E0) kx tk)
    (he : ∀ (s : Shared) (H : Hp) (C : Addr) (cl : List (Str × Addr)) (fp : List Addr), DEx (X.blk s H scope (compEnvC scope cl C X.env) fp) (fun _ => E0) elt te)
    (hy : X.N[i]? = some y := by rfl) (hyl : X.env.scope.names.lookup y = some .local := by rfl) (hkk : X.env.scope.kind = .function := by rfl) (hl : (py.line == pos.line) = true := by rfl)
    (ha : (scope.names.any fun (n, k) => n == y && (k == .local || k == .cell)) = false := by rfl) (hs : ∀ x, foldedSetIterable iter X.env x = pure x := by intro _; rfl) :
    DSx X E (.Assign [.Name y py] (.DictComp kx elt [⟨tg, iter, ifs, 0⟩] scope pos) spos) (dAsg (dDc o di (own.map (·.2)) dg tt tk te) (dName i)) := by
  obtain ⟨wi, p1, s1⟩ := hi
  refine ⟨_, ps_setDc (g := fun v σ H Q => ∀ s H0 C cl fp, (hg s H0 C cl fp).ex.choose v σ H Q) (tt := fun σ H Q => ∀ s H0 C cl fp, (ht s H0 C cl fp).ex.choose σ H Q) (tk := fun σ H Q => ∀ s H0 C cl fp, (hk s H0 C cl fp).ex.choose σ H Q) (tv := fun σ H Q => ∀ s H0 C cl fp, (he s H0 C cl fp).ex.choose σ H Q) hc hN hy hyl (sw_trueD hkk hyl hl ha) p1 ok
    (fun s H0 C cl fp => ⟨fun pins st σ H v u Q I r h => (hg s H0 C cl fp).ex.choose_spec.1.run pins st σ H v u Q I r (h s H0 C cl fp)⟩)
    (fun s H0 C cl fp => ⟨fun pins st σ H Q I h => (ht s H0 C cl fp).ex.choose_spec.1.run pins st σ H Q I (h s H0 C cl fp)⟩)
    (fun s H0 C cl fp => ⟨fun pins st σ H Q I h => (hk s H0 C cl fp).ex.choose_spec.1.run pins st σ H Q I (h s H0 C cl fp)⟩)
    (fun s H0 C cl fp => ⟨fun pins st σ H Q I h => (he s H0 C cl fp).ex.choose_spec.1.run pins st σ H Q I (h s H0 C cl fp)⟩) hs, sim_asg (sim_dc (E' := fun _ => E0) s1 ?_ ?_ ?_ ?_ ?_) sim_name⟩
  · exact fun S0 sl M σ H v d Q QD k r h l s H0 C cl fp => (hg s H0 C cl fp).ex.choose_spec.2.1 S0 sl M σ H v d Q QD k r h l
  · exact fun v σ H Q h s H0 C cl fp => (hg s H0 C cl fp).ex.choose_spec.2.2.1 v σ H Q (h s H0 C cl fp)
  · exact fun S0 sl M σ H Q QD ED k xl h l s H0 C cl fp => (ht s H0 C cl fp).ex.choose_spec.2 S0 sl M σ H Q QD ED k xl h l
  · exact fun S0 sl M σ H Q QD ED k xl h l s H0 C cl fp => (hk s H0 C cl fp).ex.choose_spec.2 S0 sl M σ H Q QD ED k xl h l
  · exact fun S0 sl M σ H Q QD ED k xl h l s H0 C cl fp => (he s H0 C cl fp).ex.choose_spec.2 S0 sl M σ H Q QD ED k xl h l
end
end OD

/-! OD20: is True, is False, of flags. -/
namespace OD
open PySem PySem.Spec L2
section
variable {X : Cx} {K : PySem.W.Frag}
def rIsBl (n : Bool) : R2 := fun x y H Q => ∃ a b : Bool, x = .bl a ∧ y = .bl b ∧ Q (.bl (xorB n (decide (a = b)))) H
theorem op_isBl : OpR X (compareOp .Is) (rIsBl false) := by
  intro pins s σ H x y v u Q I rx ry h
  obtain ⟨a, b, rfl, rfl, q⟩ := h
  cases (show v = Value.bool a from rx)
  cases (show u = Value.bool b from ry)
  by_cases e : a = b
  · subst e
    exact wpAny_is_self rfl ⟨.bl true, H, I, rfl, by simpa [xorB] using q⟩
  · exact wpAny_is_other rfl (fun z => e (Value.bool.inj z)) ⟨.bl false, H, I, rfl, by simpa [e, xorB] using q⟩
theorem op_notBl : OpR X (compareOp .IsNot) (rIsBl true) := by
  intro pins s σ H x y v u Q I rx ry h
  obtain ⟨a, b, rfl, rfl, q⟩ := h
  cases (show v = Value.bool a from rx)
  cases (show u = Value.bool b from ry)
  by_cases e : a = b
  · subst e
    exact wpAny_isNot_self rfl ⟨.bl false, H, I, rfl, by simpa [xorB] using q⟩
  · exact wpAny_isNot_other rfl (fun z => e (Value.bool.inj z)) ⟨.bl true, H, I, rfl, by simpa [e, xorB] using q⟩
def isBD (n : Bool) (x y : D) (M : Mem) (Q : DK) : Prop := ∃ a b, x = .bl a ∧ y = .bl b ∧ Q (.bl (xorB n (decide (a = b)))) M
theorem sv_isB {n : Bool} : SimV2 K (rIsBl n) (isBD n) := by
  intro S0 M H x y dx dy Q QD m rx ry h l
  obtain ⟨a, b, rfl, rfl, q⟩ := h
  cases rx.bl_inv
  cases ry.bl_inv
  exact ⟨a, b, rfl, rfl, l.now m (.bl _) q⟩
end
end OD

/-! F16: dicts that are equal. -/
namespace F
open PySem PySem.Spec L2 OD
noncomputable def eqKF (n : Bool) : D → D → Option D
  | .dic ks, .dic ls => cif (ks.length = ls.length ∧ ∀ p ∈ ks, lookD ls p.1 = some p.2 ∧ flatD p.2 = true) (some (.bl n)) none
  | _, _ => none
theorem eqKF_ok {n : Bool} : OpF (eqKD n) (eqKF n) := by
  intro x y z M Q h q
  unfold eqKF at h
  split at h
  · obtain ⟨⟨h1, h2⟩, rfl⟩ := cif_inv h
    exact ⟨_, _, rfl, rfl, h1, h2, q⟩
  · cases h
theorem eqKF_yes {n : Bool} {ks ls : List (Key × D)} (h : ks.length = ls.length) (h2 : ∀ p ∈ ks, lookD ls p.1 = some p.2 ∧ flatD p.2 = true) : eqKF n (.dic ks) (.dic ls) = some (.bl n) := by
  show cif _ _ _ = _
  rw [cif_pos ⟨h, h2⟩]
end F

/-! F17: is True, is False. -/
namespace F
open PySem PySem.Spec L2 OD
@[simp] def isBF (n : Bool) : D → D → Option D
  | .bl a, .bl b => some (.bl (xorB n (decide (a = b))))
  | _, _ => none
theorem isBF_ok {n : Bool} : OpF (isBD n) (isBF n) := by
  intro x y z M Q h q
  cases x <;> cases y <;> first | (cases h; done) | (cases h; exact ⟨_, _, rfl, rfl, q⟩)
end F

/-! FP1: all defs, as plain functions. -/
namespace Once
open PySem PySem.Spec L2 OD F
/-- the addresses of the law -/
structure Cs where
  Program : Addr
  RawProgram : Addr
  f_wrong_end : Addr
  f_wrong_second : Addr
  f_wrong_take : Addr
def Cs.P (c : Cs) (C : Addr) : Prop := C = c.Program ∨ C = c.RawProgram
def Cs.Pb (c : Cs) (C : Addr) : Bool := C == c.Program || C == c.RawProgram
theorem Cs.hP (c : Cs) (C : Addr) (h : c.Pb C = true) : c.P C := by
  unfold Cs.Pb at h
  simp only [Bool.or_eq_true, beq_iff_eq] at h
  unfold Cs.P
  simpa [or_assoc] using h
def Cs.eqProgram (c : Cs) (C C2 : Addr) : Prop := (C = c.RawProgram ∧ C2 = c.RawProgram)
def Cs.eqProgramb (c : Cs) (C C2 : Addr) : Bool := (C == c.RawProgram && C2 == c.RawProgram)
theorem Cs.heqProgram (c : Cs) (C C2 : Addr) (h : c.eqProgramb C C2 = true) : c.eqProgram C C2 := by
  unfold Cs.eqProgramb at h
  simp only [Bool.or_eq_true, Bool.and_eq_true, beq_iff_eq] at h
  unfold Cs.eqProgram
  simpa [or_assoc] using h
def Cs.rel (c : Cs) (t : Value) (D : Addr) : Option Bool := match t with
  | .ref C => if (C = c.Program ∧ D = c.Program) ∨ (C = c.RawProgram ∧ D = c.Program) ∨ (C = c.RawProgram ∧ D = c.RawProgram) then some true else none
  | _ => none
noncomputable def fb_law_size : FS :=
  (fSeq (fAsg (fCall 2 ff_law_draw (rO 0 (rE (fC (.int 32)) rNil))) 2)
  (fSeq (fIfS (fTest (fOp (eqF false) (oV 2) (oE (fC (.int 0))))) (fRet (fCall 2 ff_law_draw (rO 0 (rE (fOp addF (oV 1) (oE (fC (.int 1)))) rNil)))) fNext)
  (fRet (fCall 2 ff_law_draw (rO 0 (rE (fIf (fTest (fOp (eqF false) (oE (fOp modF (oE (fCB intF (lCons (oV 2) lNil))) (oE (fC (.int 2))))) (oE (fC (.int 0))))) (fC (.int 5)) (fC (.int 10))) rNil))))))
noncomputable def ff_law_size : FF := fDef 2 1 (fb_law_size)
def td_law_size : DS :=
  (dSeq (dAsg (dCallN (fdN 2 ff_law_draw) (dCons (dVar 0) (dCons (dC (.int 32)) dNil))) (dName 2))
  (dSeq (dIfS (dTest (dOp (eqD false) (dVar 2) (dC (.int 0)))) (dRet false (dCallN (fdN 2 ff_law_draw) (dCons (dVar 0) (dCons (dOp (addD false) (dVar 1) (dC (.int 1))) dNil)))) dNext)
  (dRet false (dCallN (fdN 2 ff_law_draw) (dCons (dVar 0) (dCons (dIf (dTest (dOp (eqD false) (dOp modD (dCB intD (dCons (dVar 2) dNil)) (dC (.int 2))) (dC (.int 0)))) (dC (.int 5)) (dC (.int 10))) dNil))))))
theorem sm_law_size : SimS 2 (fb_law_size) (td_law_size) :=
  (s_seq (s_asg (s_call (r_o (r_e (s_c _) r_nil))) (by decide))
  (s_seq (s_ifS (t_test (s_op eqF_ok (o_v 2) (o_e (s_c _)))) (s_ret (s_call (r_o (r_e (s_op addF_ok (o_v 1) (o_e (s_c _))) r_nil)))) s_next)
  (s_ret (s_call (r_o (r_e (s_if (t_test (s_op eqF_ok (o_e (s_op modF_ok (o_e (s_callB intF_ok (l_cons (o_v 2) l_nil))) (o_e (s_c _)))) (o_e (s_c _)))) (s_c _) (s_c _)) r_nil))))))
noncomputable def fb_law_letters_1 : FS :=
  (fIfS (fTest (fOp gtF (oV 2) (oE (fC (.int 0))))) (fSeq (fAsg (fOp subF (oV 2) (oE (fC (.int 1)))) 2)
  (fSeq (fAsg (fOp addF (oE (fOp ixF (oE (fC (.str "abcdefghijklmnopqrstuvwxyz"))) (oE (fOp modF (oE (fCB intF (lCons (oV 2) lNil))) (oE (fC (.int 26))))))) (oV 1)) 1)
  (fAsg (fOp divF (oV 2) (oE (fC (.int 26)))) 2))) fNext)
noncomputable def fb_law_letters : FS :=
  (fSeq (fAsg (fC (.str "")) 1)
  (fSeq (fAsg (fOp addF (oV 0) (oE (fC (.int 1)))) 2)
  (fSeq (fFor (iRg rg1F (fCons (fC (.int 9)) fNil)) (gName 3) fb_law_letters_1)
  (fRet (fVar 1)))))
noncomputable def ff_law_letters : FF := fDef 1 3 (fb_law_letters)
def td_law_letters : DS :=
  (dSeq (dAsg (dC (.str "")) (dName 1))
  (dSeq (dAsg (dOp (addD false) (dVar 0) (dC (.int 1))) (dName 2))
  (dSeq (dFor (diRange1 (dCons (dC (.int 9)) dNil)) (dName 3) (dIfS (dTest (dOp gtD (dVar 2) (dC (.int 0)))) (dSeq (dAsg (dOp subD (dVar 2) (dC (.int 1))) (dName 2))
  (dSeq (dAsg (dOp (addD false) (dOp ixD (dC (.str "abcdefghijklmnopqrstuvwxyz")) (dOp modD (dCB intD (dCons (dVar 2) dNil)) (dC (.int 26)))) (dVar 1)) (dName 1))
  (dAsg (dOp divD (dVar 2) (dC (.int 26))) (dName 2)))) dNext))
  (dRet false (dVar 1)))))
theorem sm_law_letters : SimS 1 (fb_law_letters) (td_law_letters) :=
  (s_seq (s_asg (s_c _) (by decide))
  (s_seq (s_asg (s_op addF_ok (o_v 0) (o_e (s_c _))) (by decide))
  (s_seq (s_for (i_range1 (a_cons (s_c _) a_nil)) (g_name 3) (s_ifS (t_test (s_op ordF_ok (o_v 2) (o_e (s_c _)))) (s_seq (s_asg (s_op subF_ok (o_v 2) (o_e (s_c _))) (by decide))
  (s_seq (s_asg (s_op addF_ok (o_e (s_op ixF_ok (o_e (s_c _)) (o_e (s_op modF_ok (o_e (s_callB intF_ok (l_cons (o_v 2) l_nil))) (o_e (s_c _)))))) (o_v 1)) (by decide))
  (s_asg (s_op divF_ok (o_v 2) (o_e (s_c _))) (by decide)))) s_next))
  (s_ret (s_var 1)))))
noncomputable def fb_law_fresh_1 : FS :=
  (fSeq (fAsg (fCall 1 ff_law_letters (rE (fOp addF (oV 2) (oV 4)) rNil)) 3)
  (fIfS (fTest (fOp (inF true) (oV 3) (oV 1))) fBreak fNext))
noncomputable def fb_law_fresh : FS :=
  (fSeq (fAsg (fCall 2 ff_law_draw (rO 0 (rE (fC (.int 30)) rNil))) 2)
  (fSeq (fIfS (fTest (fOp (eqF false) (oE (fCall 2 ff_law_draw (rO 0 (rE (fC (.int 2)) rNil)))) (oE (fC (.int 0))))) (fAsg (fCall 2 ff_law_draw (rO 0 (rE (fC (.int 217180140000)) rNil))) 2) fNext)
  (fSeq (fAsg (fC (.str "")) 3)
  (fSeq (fFor (iRg rg1F (fCons (fOp addF (oE (fCB lenF (lCons (oV 1) lNil))) (oE (fC (.int 1)))) fNil)) (gName 4) fb_law_fresh_1)
  (fSeq (fDrop (fApp 1 (fVar 3)))
  (fRet (fVar 3)))))))
noncomputable def ff_law_fresh : FF := fDef 2 3 (fb_law_fresh)
def td_law_fresh : DS :=
  (dSeq (dAsg (dCallN (fdN 2 ff_law_draw) (dCons (dVar 0) (dCons (dC (.int 30)) dNil))) (dName 2))
  (dSeq (dIfS (dTest (dOp (eqD false) (dCallN (fdN 2 ff_law_draw) (dCons (dVar 0) (dCons (dC (.int 2)) dNil))) (dC (.int 0)))) (dAsg (dCallN (fdN 2 ff_law_draw) (dCons (dVar 0) (dCons (dC (.int 217180140000)) dNil))) (dName 2)) dNext)
  (dSeq (dAsg (dC (.str "")) (dName 3))
  (dSeq (dFor (diRange1 (dCons (dOp (addD false) (dCB lenD (dCons (dVar 1) dNil)) (dC (.int 1))) dNil)) (dName 4) (dSeq (dAsg (dCallN (fdN 1 ff_law_letters) (dCons (dOp (addD false) (dVar 2) (dVar 4)) dNil)) (dName 3))
  (dIfS (dTest (dOp (inD true) (dVar 3) (dVar 1))) dBreak dNext)))
  (dSeq (dDrop (dApp (dVar 1) (dVar 3)))
  (dRet false (dVar 3)))))))
theorem sm_law_fresh : SimS 2 (fb_law_fresh) (td_law_fresh) :=
  (s_seq (s_asg (s_call (r_o (r_e (s_c _) r_nil))) (by decide))
  (s_seq (s_ifS (t_test (s_op eqF_ok (o_e (s_call (r_o (r_e (s_c _) r_nil)))) (o_e (s_c _)))) (s_asg (s_call (r_o (r_e (s_c _) r_nil))) (by decide)) s_next)
  (s_seq (s_asg (s_c _) (by decide))
  (s_seq (s_for (i_range1 (a_cons (s_op addF_ok (o_e (s_callB lenF_ok (l_cons (o_v 1) l_nil))) (o_e (s_c _))) a_nil)) (g_name 4) (s_seq (s_asg (s_call (r_e (s_op addF_ok (o_v 2) (o_v 4)) r_nil)) (by decide))
  (s_ifS (t_test (s_op inF_ok (o_v 3) (o_v 1))) s_break s_next)))
  (s_seq (s_drop (s_app (s_var 3)))
  (s_ret (s_var 3)))))))
noncomputable def fb_law_mixed_1 : FS :=
  (fSeq (fAsg (fCall 2 ff_law_draw (rO 0 (rE (fCB lenF (lCons (oV 2) lNil)) rNil))) 4)
  (fSwp 2 3 4))
noncomputable def fb_law_mixed : FS :=
  (fSeq (fAsg (fCBN listN (lCons (oV 1) lNil)) 2)
  (fSeq (fFor (iRg rg1F (fCons (fCB lenF (lCons (oV 2) lNil)) fNil)) (gName 3) fb_law_mixed_1)
  (fRetZ 2)))
noncomputable def ff_law_mixed : FF := fDef 2 3 (fb_law_mixed)
def td_law_mixed : DS :=
  (dSeq (dAsg (dCB (listD true) (dCons (dVar 1) dNil)) (dName 2))
  (dSeq (dFor (diRange1 (dCons (dCB lenD (dCons (dVar 2) dNil)) dNil)) (dName 3) (dSeq (dAsg (dCallN (fdN 2 ff_law_draw) (dCons (dVar 0) (dCons (dCB lenD (dCons (dVar 2) dNil)) dNil))) (dName 4))
  (dAsg (dTup (dCons (dOp ixD (dVar 2) (dVar 4)) (dCons (dOp ixD (dVar 2) (dVar 3)) dNil))) (dgTup 2 (dgCons (dgSub (dVar 2) (dVar 3)) (dgCons (dgSub (dVar 2) (dVar 4)) dgNil))))))
  (dRet true (dVar 2))))
theorem sm_law_mixed : SimS 2 (fb_law_mixed) (td_law_mixed) :=
  (s_seq (s_asg (s_callBN listN_ok listN_k (l_cons (o_v 1) l_nil)) (by decide))
  (s_seq (s_for (i_range1 (a_cons (s_callB lenF_ok (l_cons (o_v 2) l_nil)) a_nil)) (g_name 3) (s_seq (s_asg (s_call (r_o (r_e (s_callB lenF_ok (l_cons (o_v 2) l_nil)) r_nil))) (by decide))
  s_swp))
  (s_retZ (by decide))))
noncomputable def fb_law_words_1 : FS :=
  (fSeq (fIfS (fTest (fOp (eqF false) (oE (fCB lenF (lCons (oV 5) lNil))) (oE (fC (.int 0))))) fBreak fNext)
  (fSeq (fAsgG (fPop 5) (gTup 2 (gCons (gName 7) (gCons (gName 8) gNil))))
  (fIfS (fAnd (fTest (fOp (eqF false) (oV 8) (oE (fC (.int 0))))) (fTest (fOp (eqF false) (oE (fCB lenF (lCons (oV 7) lNil))) (oE (fC (.int 1)))))) (fDrop (fApp 4 (fOp ixF (oV 7) (oE (fC (.int 0)))))) (fIfS (fOr (fTest (fOp (eqF false) (oV 8) (oE (fC (.int 0))))) (fAnd (fTest (fOp leF (oE (fCB lenF (lCons (oV 7) lNil))) (oV 8))) (fTest (fOp (eqF false) (oE (fCall 2 ff_law_draw (rO 0 (rE (fC (.int 2)) rNil)))) (oE (fC (.int 0))))))) (fSeq (fAsg (fCall 2 ff_law_fresh (rO 0 (rO 3 rNil))) 9)
  (fSeq (fDrop (fApp 4 (fOp addF (oE (fC (.str "/"))) (oV 9))))
  (fDrop (fApp 5 (fTup (fCons (fOp addF (oV 7) (oE (fLst (fCons (fVar 9) fNil)))) (fCons (fVar 8) fNil))))))) (fSeq (fAsg (fCall 2 ff_law_mixed (rO 0 (rO 7 rNil))) 7)
  (fSeq (fAsg (fCB max2F (lCons (oE (fC (.int 0))) (lCons (oE (fOp subF (oE (fCB lenF (lCons (oV 7) lNil))) (oV 8))) lNil))) 10)
  (fSeq (fAsg (fOp addF (oV 10) (oE (fCall 2 ff_law_draw (rO 0 (rE (fOp addF (oE (fOp subF (oE (fCB min2F (lCons (oE (fCB lenF (lCons (oV 7) lNil))) (lCons (oV 8) lNil)))) (oV 10))) (oE (fC (.int 1)))) rNil))))) 11)
  (fSeq (fAsg (fCB max2F (lCons (oE (fC (.int 0))) (lCons (oE (fOp subF (oV 11) (oE (fC (.int 1))))) lNil))) 12)
  (fSeq (fAsg (fOp addF (oV 12) (oE (fCall 2 ff_law_draw (rO 0 (rE (fOp addF (oE (fOp subF (oE (fOp subF (oE (fOp subF (oV 8) (oE (fC (.int 1))))) (oE (fCB max2F (lCons (oE (fC (.int 0))) (lCons (oE (fOp subF (oE (fOp subF (oE (fCB lenF (lCons (oV 7) lNil))) (oV 11))) (oE (fC (.int 1))))) lNil)))))) (oV 12))) (oE (fC (.int 1)))) rNil))))) 13)
  (fSeq (fDrop (fApp 4 (fC (.str "@"))))
  (fSeq (fDrop (fApp 5 (fTup (fCons (fSl (oV 7) (pSo (fVar 11)) pNo) (fCons (fOp subF (oE (fOp subF (oV 8) (oE (fC (.int 1))))) (oV 13)) fNil)))))
  (fDrop (fApp 5 (fTup (fCons (fSl (oV 7) pNo (pSo (fVar 11))) (fCons (fVar 13) fNil))))))))))))))))
noncomputable def fb_law_words : FS :=
  (fSeq (fAsg (fLstN fNil) 4)
  (fSeq (fAsg (fLstN (fCons (fTup (fCons (fCB listF (lCons (oV 1) lNil)) (fCons (fVar 2) fNil))) fNil)) 5)
  (fSeq (fFor (iRg rg1F (fCons (fOp addF (oE (fOp mulF (oE (fC (.int 3))) (oV 2))) (oE (fC (.int 2)))) fNil)) (gName 6) fb_law_words_1)
  (fRet (fCB tupleF (lCons (oV 4) lNil))))))
noncomputable def ff_law_words : FF := fDef 4 10 (fb_law_words)
def td_law_words : DS :=
  (dSeq (dAsg (dLst true dNil) (dName 4))
  (dSeq (dAsg (dLst true (dCons (dTup (dCons (dCB (listD false) (dCons (dVar 1) dNil)) (dCons (dVar 2) dNil))) dNil)) (dName 5))
  (dSeq (dFor (diRange1 (dCons (dOp (addD false) (dOp (mulD false) (dC (.int 3)) (dVar 2)) (dC (.int 2))) dNil)) (dName 6) (dSeq (dIfS (dTest (dOp (eqD false) (dCB lenD (dCons (dVar 5) dNil)) (dC (.int 0)))) dBreak dNext)
  (dSeq (dAsg (dMth popF (dVar 5) dNil) (dgTup 2 (dgCons (dName 7) (dgCons (dName 8) dgNil))))
  (dIfS (dAnd (dTest (dOp (eqD false) (dVar 8) (dC (.int 0)))) (dTest (dOp (eqD false) (dCB lenD (dCons (dVar 7) dNil)) (dC (.int 1))))) (dDrop (dApp (dVar 4) (dOp ixD (dVar 7) (dC (.int 0))))) (dIfS (dOr (dTest (dOp (eqD false) (dVar 8) (dC (.int 0)))) (dAnd (dTest (dOp leD (dCB lenD (dCons (dVar 7) dNil)) (dVar 8))) (dTest (dOp (eqD false) (dCallN (fdN 2 ff_law_draw) (dCons (dVar 0) (dCons (dC (.int 2)) dNil))) (dC (.int 0)))))) (dSeq (dAsg (dCallN (fdN 2 ff_law_fresh) (dCons (dVar 0) (dCons (dVar 3) dNil))) (dName 9))
  (dSeq (dDrop (dApp (dVar 4) (dOp (addD false) (dC (.str "/")) (dVar 9))))
  (dDrop (dApp (dVar 5) (dTup (dCons (dOp (addD false) (dVar 7) (dLst false (dCons (dVar 9) dNil))) (dCons (dVar 8) dNil))))))) (dSeq (dAsg (dCallN (fdN 2 ff_law_mixed) (dCons (dVar 0) (dCons (dVar 7) dNil))) (dName 7))
  (dSeq (dAsg (dCB max2D (dCons (dC (.int 0)) (dCons (dOp subD (dCB lenD (dCons (dVar 7) dNil)) (dVar 8)) dNil))) (dName 10))
  (dSeq (dAsg (dOp (addD false) (dVar 10) (dCallN (fdN 2 ff_law_draw) (dCons (dVar 0) (dCons (dOp (addD false) (dOp subD (dCB min2D (dCons (dCB lenD (dCons (dVar 7) dNil)) (dCons (dVar 8) dNil))) (dVar 10)) (dC (.int 1))) dNil)))) (dName 11))
  (dSeq (dAsg (dCB max2D (dCons (dC (.int 0)) (dCons (dOp subD (dVar 11) (dC (.int 1))) dNil))) (dName 12))
  (dSeq (dAsg (dOp (addD false) (dVar 12) (dCallN (fdN 2 ff_law_draw) (dCons (dVar 0) (dCons (dOp (addD false) (dOp subD (dOp subD (dOp subD (dVar 8) (dC (.int 1))) (dCB max2D (dCons (dC (.int 0)) (dCons (dOp subD (dOp subD (dCB lenD (dCons (dVar 7) dNil)) (dVar 11)) (dC (.int 1))) dNil)))) (dVar 12)) (dC (.int 1))) dNil)))) (dName 13))
  (dSeq (dDrop (dApp (dVar 4) (dC (.str "@"))))
  (dSeq (dDrop (dApp (dVar 5) (dTup (dCons (dSl false (dVar 7) (dPart (dVar 11)) dNoPart) (dCons (dOp subD (dOp subD (dVar 8) (dC (.int 1))) (dVar 13)) dNil)))))
  (dDrop (dApp (dVar 5) (dTup (dCons (dSl false (dVar 7) dNoPart (dPart (dVar 11))) (dCons (dVar 13) dNil)))))))))))))))))
  (dRet false (dCB tupleD (dCons (dVar 4) dNil))))))
theorem sm_law_words : SimS 4 (fb_law_words) (td_law_words) :=
  (s_seq (s_asg (s_lstN a_nil) (by decide))
  (s_seq (s_asg (s_lstN (a_cons (s_tup (a_cons (s_callB listF_ok (l_cons (o_v 1) l_nil)) (a_cons (s_var 2) a_nil))) a_nil)) (by decide))
  (s_seq (s_for (i_range1 (a_cons (s_op addF_ok (o_e (s_op mulF_ok (o_e (s_c _)) (o_v 2))) (o_e (s_c _))) a_nil)) (g_name 6) (s_seq (s_ifS (t_test (s_op eqF_ok (o_e (s_callB lenF_ok (l_cons (o_v 5) l_nil))) (o_e (s_c _)))) s_break s_next)
  (s_seq (s_asgG s_pop (g_tup (g_cons (g_name 7) (g_cons (g_name 8) g_nil))))
  (s_ifS (t_and (t_test (s_op eqF_ok (o_v 8) (o_e (s_c _)))) (t_test (s_op eqF_ok (o_e (s_callB lenF_ok (l_cons (o_v 7) l_nil))) (o_e (s_c _))))) (s_drop (s_app (s_op ixF_ok (o_v 7) (o_e (s_c _))))) (s_ifS (t_or (t_test (s_op eqF_ok (o_v 8) (o_e (s_c _)))) (t_and (t_test (s_op ordF_ok (o_e (s_callB lenF_ok (l_cons (o_v 7) l_nil))) (o_v 8))) (t_test (s_op eqF_ok (o_e (s_call (r_o (r_e (s_c _) r_nil)))) (o_e (s_c _)))))) (s_seq (s_asg (s_call (r_o (r_o r_nil))) (by decide))
  (s_seq (s_drop (s_app (s_op addF_ok (o_e (s_c _)) (o_v 9))))
  (s_drop (s_app (s_tup (a_cons (s_op addF_ok (o_v 7) (o_e (s_lst (a_cons (s_var 9) a_nil)))) (a_cons (s_var 8) a_nil))))))) (s_seq (s_asg (s_call (r_o (r_o r_nil))) (by decide))
  (s_seq (s_asg (s_callB max2F_ok (l_cons (o_e (s_c _)) (l_cons (o_e (s_op subF_ok (o_e (s_callB lenF_ok (l_cons (o_v 7) l_nil))) (o_v 8))) l_nil))) (by decide))
  (s_seq (s_asg (s_op addF_ok (o_v 10) (o_e (s_call (r_o (r_e (s_op addF_ok (o_e (s_op subF_ok (o_e (s_callB min2F_ok (l_cons (o_e (s_callB lenF_ok (l_cons (o_v 7) l_nil))) (l_cons (o_v 8) l_nil)))) (o_v 10))) (o_e (s_c _))) r_nil))))) (by decide))
  (s_seq (s_asg (s_callB max2F_ok (l_cons (o_e (s_c _)) (l_cons (o_e (s_op subF_ok (o_v 11) (o_e (s_c _)))) l_nil))) (by decide))
  (s_seq (s_asg (s_op addF_ok (o_v 12) (o_e (s_call (r_o (r_e (s_op addF_ok (o_e (s_op subF_ok (o_e (s_op subF_ok (o_e (s_op subF_ok (o_v 8) (o_e (s_c _)))) (o_e (s_callB max2F_ok (l_cons (o_e (s_c _)) (l_cons (o_e (s_op subF_ok (o_e (s_op subF_ok (o_e (s_callB lenF_ok (l_cons (o_v 7) l_nil))) (o_v 11))) (o_e (s_c _)))) l_nil)))))) (o_v 12))) (o_e (s_c _))) r_nil))))) (by decide))
  (s_seq (s_drop (s_app (s_c _)))
  (s_seq (s_drop (s_app (s_tup (a_cons (s_sl (o_v 7) (p_so (s_var 11)) p_no) (a_cons (s_op subF_ok (o_e (s_op subF_ok (o_v 8) (o_e (s_c _)))) (o_v 13)) a_nil)))))
  (s_drop (s_app (s_tup (a_cons (s_sl (o_v 7) p_no (p_so (s_var 11))) (a_cons (s_var 13) a_nil)))))))))))))))))
  (s_ret (s_callB tupleF_ok (l_cons (o_v 4) l_nil))))))
noncomputable def fb_law_program_1 : FS :=
  (fDrop (fCall 2 ff_law_fresh (rO 0 (rO 4 rNil))))
noncomputable def fb_law_program : FS :=
  (fSeq (fAsg (fCall 2 ff_law_size (rO 0 (rO 1 rNil))) 3)
  (fSeq (fAsg (fLstN fNil) 4)
  (fSeq (fFor (iRg rg1F (fCons (fCB min2F (lCons (oE (fCall 2 ff_law_draw (rO 0 (rE (fOp addF (oV 2) (oE (fC (.int 1)))) rNil)))) (lCons (oE (fOp addF (oV 3) (oE (fC (.int 1))))) lNil))) fNil)) (gName 5) fb_law_program_1)
  (fRet (fCall 4 ff_law_words (rO 0 (rE (fCB listF (lCons (oV 4) lNil)) (rO 3 (rO 4 rNil)))))))))
noncomputable def ff_law_program : FF := fDef 3 3 (fb_law_program)
def td_law_program : DS :=
  (dSeq (dAsg (dCallN (fdN 2 ff_law_size) (dCons (dVar 0) (dCons (dVar 1) dNil))) (dName 3))
  (dSeq (dAsg (dLst true dNil) (dName 4))
  (dSeq (dFor (diRange1 (dCons (dCB min2D (dCons (dCallN (fdN 2 ff_law_draw) (dCons (dVar 0) (dCons (dOp (addD false) (dVar 2) (dC (.int 1))) dNil))) (dCons (dOp (addD false) (dVar 3) (dC (.int 1))) dNil))) dNil)) (dName 5) (dDrop (dCallN (fdN 2 ff_law_fresh) (dCons (dVar 0) (dCons (dVar 4) dNil)))))
  (dRet false (dCallN (fdN 4 ff_law_words) (dCons (dVar 0) (dCons (dCB (listD false) (dCons (dVar 4) dNil)) (dCons (dVar 3) (dCons (dVar 4) dNil)))))))))
theorem sm_law_program : SimS 3 (fb_law_program) (td_law_program) :=
  (s_seq (s_asg (s_call (r_o (r_o r_nil))) (by decide))
  (s_seq (s_asg (s_lstN a_nil) (by decide))
  (s_seq (s_for (i_range1 (a_cons (s_callB min2F_ok (l_cons (o_e (s_call (r_o (r_e (s_op addF_ok (o_v 2) (o_e (s_c _))) r_nil)))) (l_cons (o_e (s_op addF_ok (o_v 3) (o_e (s_c _)))) l_nil))) a_nil)) (g_name 5) (s_drop (s_call (r_o (r_o r_nil)))))
  (s_ret (s_call (r_o (r_e (s_callB listF_ok (l_cons (o_v 4) l_nil)) (r_o (r_o r_nil)))))))))
noncomputable def fb_is_take : FS :=
  (fRet (fOp (eqF false) (oE (fSl (oV 0) pNo (pSo (fC (.int 1))))) (oE (fC (.str "/")))))
noncomputable def ff_is_take : FF := fDef 1 0 (fb_is_take)
def td_is_take : DS :=
  (dRet false (dOp (eqD false) (dSl false (dVar 0) dNoPart (dPart (dC (.int 1)))) (dC (.str "/"))))
theorem sm_is_take : SimS 1 (fb_is_take) (td_is_take) :=
  (s_ret (s_op eqF_ok (o_e (s_sl (o_v 0) p_no (p_so (s_c _)))) (o_e (s_c _))))
noncomputable def fb_name_of : FS :=
  (fRet (fIf (fTru (oE (fCall 1 ff_is_take (rO 0 rNil)))) (fSl (oV 0) (pSo (fC (.int 1))) pNo) (fVar 0)))
noncomputable def ff_name_of : FF := fDef 1 0 (fb_name_of)
def td_name_of : DS :=
  (dRet false (dIf (dTru (dCallN (fdN 1 ff_is_take) (dCons (dVar 0) dNil))) (dSl false (dVar 0) (dPart (dC (.int 1))) dNoPart) (dVar 0)))
theorem sm_name_of : SimS 1 (fb_name_of) (td_name_of) :=
  (s_ret (s_if (t_tru (fun _ _ _ h => h) (o_e (s_call (r_o r_nil)))) (s_sl (o_v 0) (p_so (s_c _)) p_no) (s_var 0)))
noncomputable def fb_taken : FS :=
  (fRet (fDc (iEnum (fCons (fVar 0) fNil)) [1, 2] (gTup 2 (gCons (gName 1) (gCons (gName 2) gNil))) (fTru (oE (fCall 1 ff_is_take (rO 2 rNil)))) (fCall 1 ff_name_of (rO 2 rNil)) (fVar 1)))
noncomputable def ff_taken : FF := fDef 1 2 (fb_taken)
def td_taken : DS :=
  (dRet false (dDc false (diEnum (dCons (dVar 0) dNil)) [1, 2] (dgTup 2 (dgCons (dName 1) (dgCons (dName 2) dgNil))) (dTru (dCallN (fdN 1 ff_is_take) (dCons (dVar 2) dNil))) (dCallN (fdN 1 ff_name_of) (dCons (dVar 2) dNil)) (dVar 1)))
theorem sm_taken : SimS 1 (fb_taken) (td_taken) :=
  (s_ret (s_dc (i_enum (a_cons (s_var 0) a_nil)) (g_tup (g_cons (g_name 1) (g_cons (g_name 2) g_nil))) (t_tru (fun _ _ _ h => h) (o_e (s_call (r_o r_nil)))) (s_call (r_o r_nil)) (s_var 1)))
noncomputable def fb_is_give : FS :=
  (fRet (fOp (eqF false) (oV 0) (oE (fC (.str "@")))))
noncomputable def ff_is_give : FF := fDef 1 0 (fb_is_give)
def td_is_give : DS :=
  (dRet false (dOp (eqD false) (dVar 0) (dC (.str "@"))))
theorem sm_is_give : SimS 1 (fb_is_give) (td_is_give) :=
  (s_ret (s_op eqF_ok (o_v 0) (o_e (s_c _))))
noncomputable def fb_raw_open : FS :=
  (fSeq (fAsg (fCall 1 ff_taken (rO 0 rNil)) 1)
  (fRet (fCB tupleF (lCons (oE (fLc (iSeq (fVar 0)) [2] (gName 2) (fAnd (fNot (fTru (oE (fCall 1 ff_is_give (rO 2 rNil))))) (fAnd (fNot (fTru (oE (fCall 1 ff_is_take (rO 2 rNil))))) (fTest (fOp (inF true) (oV 2) (oV 1))))) (fVar 2))) lNil))))
noncomputable def ff_raw_open : FF := fDef 1 2 (fb_raw_open)
def td_raw_open : DS :=
  (dSeq (dAsg (dCallN (fdN 1 ff_taken) (dCons (dVar 0) dNil)) (dName 1))
  (dRet false (dCB tupleD (dCons (dLc false (diSeq (dVar 0)) [2] (dName 2) (dAnd (dNot (dTru (dCallN (fdN 1 ff_is_give) (dCons (dVar 2) dNil)))) (dAnd (dNot (dTru (dCallN (fdN 1 ff_is_take) (dCons (dVar 2) dNil)))) (dTest (dOp (inD true) (dVar 2) (dVar 1))))) (dVar 2)) dNil))))
theorem sm_raw_open : SimS 1 (fb_raw_open) (td_raw_open) :=
  (s_seq (s_asg (s_call (r_o r_nil)) (by decide))
  (s_ret (s_callB tupleF_ok (l_cons (o_e (s_lc (i_seq (s_var 0)) (g_name 2) (t_and (t_not (t_tru (fun _ _ _ h => h) (o_e (s_call (r_o r_nil))))) (t_and (t_not (t_tru (fun _ _ _ h => h) (o_e (s_call (r_o r_nil))))) (t_test (s_op inF_ok (o_v 2) (o_v 1))))) (s_var 2))) l_nil))))
noncomputable def fb_letters_name_1 : FS :=
  (fSeq (fAug 2 subF (oE (fC (.int 1))))
  (fSeq (fAsg (fOp addF (oE (fOp ixF (oE (fC (.str "abcdefghijklmnopqrstuvwxyz"))) (oE (fOp modF (oV 2) (oE (fC (.int 26))))))) (oV 1)) 1)
  (fAsg (fOp divF (oV 2) (oE (fC (.int 26)))) 2)))
noncomputable def fb_letters_name : FS :=
  (fSeq (fAsg (fC (.str "")) 1)
  (fSeq (fAsg (fOp addF (oV 0) (oE (fC (.int 1)))) 2)
  (fSeq (fWhile (fTest (fOp gtF (oV 2) (oE (fC (.int 0))))) fb_letters_name_1)
  (fRet (fVar 1)))))
noncomputable def ff_letters_name : FF := fDef 1 2 (fb_letters_name)
def td_letters_name : DS :=
  (dSeq (dAsg (dC (.str "")) (dName 1))
  (dSeq (dAsg (dOp (addD false) (dVar 0) (dC (.int 1))) (dName 2))
  (dSeq (dWhile (dTest (dOp gtD (dVar 2) (dC (.int 0)))) (dSeq (dAug 2 subD (dC (.int 1)))
  (dSeq (dAsg (dOp (addD false) (dOp ixD (dC (.str "abcdefghijklmnopqrstuvwxyz")) (dOp modD (dVar 2) (dC (.int 26)))) (dVar 1)) (dName 1))
  (dAsg (dOp divD (dVar 2) (dC (.int 26))) (dName 2)))))
  (dRet false (dVar 1)))))
theorem sm_letters_name : SimS 1 (fb_letters_name) (td_letters_name) :=
  (s_seq (s_asg (s_c _) (by decide))
  (s_seq (s_asg (s_op addF_ok (o_v 0) (o_e (s_c _))) (by decide))
  (s_seq (s_while (t_test (s_op ordF_ok (o_v 2) (o_e (s_c _)))) (s_seq (s_aug subF_ok (o_e (s_c _)))
  (s_seq (s_asg (s_op addF_ok (o_e (s_op ixF_ok (o_e (s_c _)) (o_e (s_op modF_ok (o_v 2) (o_e (s_c _)))))) (o_v 1)) (by decide))
  (s_asg (s_op divF_ok (o_v 2) (o_e (s_c _))) (by decide)))))
  (s_ret (s_var 1)))))
noncomputable def fb_word_renamed : FS :=
  (fSeq (fIfS (fTru (oE (fCall 1 ff_is_give (rO 0 rNil)))) (fRet (fVar 0)) fNext)
  (fRet (fIf (fTru (oE (fCall 1 ff_is_take (rO 0 rNil)))) (fOp addF (oE (fC (.str "/"))) (oE (fOp ixF (oV 1) (oE (fCall 1 ff_name_of (rO 0 rNil)))))) (fOp ixF (oV 1) (oV 0)))))
noncomputable def ff_word_renamed : FF := fDef 2 0 (fb_word_renamed)
def td_word_renamed : DS :=
  (dSeq (dIfS (dTru (dCallN (fdN 1 ff_is_give) (dCons (dVar 0) dNil))) (dRet false (dVar 0)) dNext)
  (dRet false (dIf (dTru (dCallN (fdN 1 ff_is_take) (dCons (dVar 0) dNil))) (dOp (addD false) (dC (.str "/")) (dOp ixD (dVar 1) (dCallN (fdN 1 ff_name_of) (dCons (dVar 0) dNil)))) (dOp ixD (dVar 1) (dVar 0)))))
theorem sm_word_renamed : SimS 2 (fb_word_renamed) (td_word_renamed) :=
  (s_seq (s_ifS (t_tru (fun _ _ _ h => h) (o_e (s_call (r_o r_nil)))) (s_ret (s_var 0)) s_next)
  (s_ret (s_if (t_tru (fun _ _ _ h => h) (o_e (s_call (r_o r_nil)))) (s_op addF_ok (o_e (s_c _)) (o_e (s_op ixF_ok (o_v 1) (o_e (s_call (r_o r_nil)))))) (s_op ixF_ok (o_v 1) (o_v 0)))))
noncomputable def fb_words_renamed : FS :=
  (fRet (fCB tupleF (lCons (oE (fLc (iSeq (fVar 0)) [2] (gName 2) tYes (fCall 2 ff_word_renamed (rO 2 (rO 1 rNil))))) lNil)))
noncomputable def ff_words_renamed : FF := fDef 2 1 (fb_words_renamed)
def td_words_renamed : DS :=
  (dRet false (dCB tupleD (dCons (dLc false (diSeq (dVar 0)) [2] (dName 2) dYes (dCallN (fdN 2 ff_word_renamed) (dCons (dVar 2) (dCons (dVar 1) dNil)))) dNil)))
theorem sm_words_renamed : SimS 2 (fb_words_renamed) (td_words_renamed) :=
  (s_ret (s_callB tupleF_ok (l_cons (o_e (s_lc (i_seq (s_var 0)) (g_name 2) t_yes (s_call (r_o (r_o r_nil))))) l_nil)))
noncomputable def fb_raw_standard_1 : FS :=
  (fAug 3 iaddF (oE (fC (.int 1))))
noncomputable def fb_raw_standard_2 : FS :=
  (fIfS (fTru (oE (fCall 1 ff_is_take (rO 4 rNil)))) (fSeq (fWhile (fTest (fOp (inF false) (oE (fCall 1 ff_letters_name (rO 3 rNil))) (oV 2))) fb_raw_standard_1)
  (fSeq (fSetIx 1 (fCall 1 ff_name_of (rO 4 rNil)) (fCall 1 ff_letters_name (rO 3 rNil)))
  (fAug 3 iaddF (oE (fC (.int 1)))))) fNext)
noncomputable def fb_raw_standard : FS :=
  (fSeq (fAsg (fDcN (iSeq (fCall 1 ff_raw_open (rO 0 rNil))) [5] (gName 5) tYes (fVar 5) (fVar 5)) 1)
  (fSeq (fAsg (fCopy (oV 1)) 2)
  (fSeq (fAsg (fC (.int 0)) 3)
  (fSeq (fFor (iSeq (fVar 0)) (gName 4) fb_raw_standard_2)
  (fRet (fCall 2 ff_words_renamed (rO 0 (rO 1 rNil))))))))
noncomputable def ff_raw_standard : FF := fDef 1 5 (fb_raw_standard)
def td_raw_standard : DS :=
  (dSeq (dAsg (dDc true (diSeq (dCallN (fdN 1 ff_raw_open) (dCons (dVar 0) dNil))) [5] (dName 5) dYes (dVar 5) (dVar 5)) (dName 1))
  (dSeq (dAsg (dCopy false (dVar 1)) (dName 2))
  (dSeq (dAsg (dC (.int 0)) (dName 3))
  (dSeq (dFor (diSeq (dVar 0)) (dName 4) (dIfS (dTru (dCallN (fdN 1 ff_is_take) (dCons (dVar 4) dNil))) (dSeq (dWhile (dTest (dOp (inD false) (dCallN (fdN 1 ff_letters_name) (dCons (dVar 3) dNil)) (dVar 2))) (dAug 3 iaddD (dC (.int 1))))
  (dSeq (dSetIx (dCallN (fdN 1 ff_letters_name) (dCons (dVar 3) dNil)) (dVar 1) (dCallN (fdN 1 ff_name_of) (dCons (dVar 4) dNil)))
  (dAug 3 iaddD (dC (.int 1))))) dNext))
  (dRet false (dCallN (fdN 2 ff_words_renamed) (dCons (dVar 0) (dCons (dVar 1) dNil))))))))
theorem sm_raw_standard : SimS 1 (fb_raw_standard) (td_raw_standard) :=
  (s_seq (s_asg (s_dcN (i_seq (s_call (r_o r_nil))) (g_name 5) t_yes (s_var 5) (s_var 5)) (by decide))
  (s_seq (s_asg (s_copy (o_v 1)) (by decide))
  (s_seq (s_asg (s_c _) (by decide))
  (s_seq (s_for (i_seq (s_var 0)) (g_name 4) (s_ifS (t_tru (fun _ _ _ h => h) (o_e (s_call (r_o r_nil)))) (s_seq (s_while (t_test (s_op inF_ok (o_e (s_call (r_o r_nil))) (o_v 2))) (s_aug iaddF_ok (o_e (s_c _))))
  (s_seq (s_setIx (s_call (r_o r_nil)) (s_call (r_o r_nil)))
  (s_aug iaddF_ok (o_e (s_c _))))) s_next))
  (s_ret (s_call (r_o (r_o r_nil))))))))
noncomputable def fb_RawProgram_init (c : Cs) : FS :=
  (fSetF c.Pb "words" (fCB tupleF (lCons (oV 1) lNil)) 0)
noncomputable def ff_RawProgram_init (c : Cs) : FF := fDef 2 0 (fb_RawProgram_init c)
def td_RawProgram_init (c : Cs) : DS :=
  (dSetF c.P "words" (dCB tupleD (dCons (dVar 1) dNil)) (dVar 0))
theorem sm_RawProgram_init {c : Cs} : SimS 2 (fb_RawProgram_init c) (td_RawProgram_init c) :=
  (s_setF c.hP (s_callB tupleF_ok (l_cons (o_v 1) l_nil)))
noncomputable def fb_standard (c : Cs) : FS :=
  (fRet (fMake c.RawProgram 2 (ff_RawProgram_init c) (fCons (fCall 1 ff_raw_standard (rE (fFld c.Pb "words" (oV 0)) rNil)) fNil)))
noncomputable def ff_standard (c : Cs) : FF := fDef 1 0 (fb_standard c)
def td_standard (c : Cs) : DS :=
  (dRet false (dMake c.RawProgram (fdN 2 (ff_RawProgram_init c)) [] false (dCons (dCallN (fdN 1 ff_raw_standard) (dCons (dFld c.P "words" (dVar 0)) dNil)) dNil)))
theorem sm_standard {c : Cs} : SimS 1 (fb_standard c) (td_standard c) :=
  (s_ret (s_make (a_cons (s_call (r_e (s_fld c.hP (o_v 0)) r_nil)) a_nil)))
noncomputable def fb_law_ends_1 : FS :=
  (fAsg (fPop 2) 4)
noncomputable def fb_law_ends_2 : FS :=
  (fSeq (fAsg (fOp addF (oV 3) (oE (fC (.int 1)))) 4)
  (fSeq (fFor (iRg rg1F (fCons (fIf (fTest (fOp (eqF false) (oE (fOp ixF (oV 0) (oV 3))) (oE (fC (.str "@"))))) (fC (.int 2)) (fCB intF (lCons (oE (fOp (eqF false) (oE (fSl (oE (fOp ixF (oV 0) (oV 3))) pNo (pSo (fC (.int 1))))) (oE (fC (.str "/"))))) lNil))) fNil)) (gName 5) fb_law_ends_1)
  (fSeq (fSetIx 1 (fVar 3) (fVar 4))
  (fDrop (fApp 2 (fVar 4))))))
noncomputable def fb_law_ends : FS :=
  (fSeq (fAsg (fOpN mulFN (oE (fLst (fCons (fC (.int 0)) fNil))) (oE (fCB lenF (lCons (oV 0) lNil)))) 1)
  (fSeq (fAsg (fLstN fNil) 2)
  (fSeq (fFor (iRg rg3F (fCons (fOp subF (oE (fCB lenF (lCons (oV 0) lNil))) (oE (fC (.int 1)))) (fCons (fUn negF (oE (fC (.int 1)))) (fCons (fUn negF (oE (fC (.int 1)))) fNil)))) (gName 3) fb_law_ends_2)
  (fRet (fCB tupleF (lCons (oV 1) lNil))))))
noncomputable def ff_law_ends : FF := fDef 1 5 (fb_law_ends)
def td_law_ends : DS :=
  (dSeq (dAsg (dOp (mulD true) (dLst false (dCons (dC (.int 0)) dNil)) (dCB lenD (dCons (dVar 0) dNil))) (dName 1))
  (dSeq (dAsg (dLst true dNil) (dName 2))
  (dSeq (dFor (diRange3 (dCons (dOp subD (dCB lenD (dCons (dVar 0) dNil)) (dC (.int 1))) (dCons (dUn negD (dC (.int 1))) (dCons (dUn negD (dC (.int 1))) dNil)))) (dName 3) (dSeq (dAsg (dOp (addD false) (dVar 3) (dC (.int 1))) (dName 4))
  (dSeq (dFor (diRange1 (dCons (dIf (dTest (dOp (eqD false) (dOp ixD (dVar 0) (dVar 3)) (dC (.str "@")))) (dC (.int 2)) (dCB intD (dCons (dOp (eqD false) (dSl false (dOp ixD (dVar 0) (dVar 3)) dNoPart (dPart (dC (.int 1)))) (dC (.str "/"))) dNil))) dNil)) (dName 5) (dAsg (dMth popF (dVar 2) dNil) (dName 4)))
  (dSeq (dSetIx (dVar 4) (dVar 1) (dVar 3))
  (dDrop (dApp (dVar 2) (dVar 4)))))))
  (dRet false (dCB tupleD (dCons (dVar 1) dNil))))))
theorem sm_law_ends : SimS 1 (fb_law_ends) (td_law_ends) :=
  (s_seq (s_asg (s_opN mulFN_ok (o_e (s_lst (a_cons (s_c _) a_nil))) (o_e (s_callB lenF_ok (l_cons (o_v 0) l_nil)))) (by decide))
  (s_seq (s_asg (s_lstN a_nil) (by decide))
  (s_seq (s_for (i_range3 (a_cons (s_op subF_ok (o_e (s_callB lenF_ok (l_cons (o_v 0) l_nil))) (o_e (s_c _))) (a_cons (s_un negF_ok (o_e (s_c _))) (a_cons (s_un negF_ok (o_e (s_c _))) a_nil)))) (g_name 3) (s_seq (s_asg (s_op addF_ok (o_v 3) (o_e (s_c _))) (by decide))
  (s_seq (s_for (i_range1 (a_cons (s_if (t_test (s_op eqF_ok (o_e (s_op ixF_ok (o_v 0) (o_v 3))) (o_e (s_c _)))) (s_c _) (s_callB intF_ok (l_cons (o_e (s_op eqF_ok (o_e (s_sl (o_e (s_op ixF_ok (o_v 0) (o_v 3))) p_no (p_so (s_c _)))) (o_e (s_c _)))) l_nil))) a_nil)) (g_name 5) (s_asg s_pop (by decide)))
  (s_seq (s_setIx (s_var 4) (s_var 3))
  (s_drop (s_app (s_var 4)))))))
  (s_ret (s_callB tupleF_ok (l_cons (o_v 1) l_nil))))))
noncomputable def fb_law_open_1 : FS :=
  (fIfS (fTest (fOp (eqF false) (oE (fSl (oV 2) pNo (pSo (fC (.int 1))))) (oE (fC (.str "/"))))) (fSetIx 1 (fSl (oV 2) (pSo (fC (.int 1))) pNo) (fC (.bl true))) fNext)
noncomputable def fb_law_open : FS :=
  (fSeq (fAsg fDicN 1)
  (fSeq (fFor (iSeq (fVar 0)) (gName 2) fb_law_open_1)
  (fRet (fLc (iSeq (fVar 0)) [2] (gName 2) (fAnd (fTest (fOp (eqF true) (oV 2) (oE (fC (.str "@"))))) (fAnd (fTest (fOp (eqF true) (oE (fSl (oV 2) pNo (pSo (fC (.int 1))))) (oE (fC (.str "/"))))) (fTest (fOp (inF true) (oV 2) (oV 1))))) (fVar 2)))))
noncomputable def ff_law_open : FF := fDef 1 2 (fb_law_open)
def td_law_open : DS :=
  (dSeq (dAsg (dDic0 true) (dName 1))
  (dSeq (dFor (diSeq (dVar 0)) (dName 2) (dIfS (dTest (dOp (eqD false) (dSl false (dVar 2) dNoPart (dPart (dC (.int 1)))) (dC (.str "/")))) (dSetIx (dC (.bl true)) (dVar 1) (dSl false (dVar 2) (dPart (dC (.int 1))) dNoPart)) dNext))
  (dRet false (dLc false (diSeq (dVar 0)) [2] (dName 2) (dAnd (dTest (dOp (eqD true) (dVar 2) (dC (.str "@")))) (dAnd (dTest (dOp (eqD true) (dSl false (dVar 2) dNoPart (dPart (dC (.int 1)))) (dC (.str "/")))) (dTest (dOp (inD true) (dVar 2) (dVar 1))))) (dVar 2)))))
theorem sm_law_open : SimS 1 (fb_law_open) (td_law_open) :=
  (s_seq (s_asg s_dicN (by decide))
  (s_seq (s_for (i_seq (s_var 0)) (g_name 2) (s_ifS (t_test (s_op eqF_ok (o_e (s_sl (o_v 2) p_no (p_so (s_c _)))) (o_e (s_c _)))) (s_setIx (s_c _) (s_sl (o_v 2) (p_so (s_c _)) p_no)) s_next))
  (s_ret (s_lc (i_seq (s_var 0)) (g_name 2) (t_and (t_test (s_op eqF_ok (o_v 2) (o_e (s_c _)))) (t_and (t_test (s_op eqF_ok (o_e (s_sl (o_v 2) p_no (p_so (s_c _)))) (o_e (s_c _)))) (t_test (s_op inF_ok (o_v 2) (o_v 1))))) (s_var 2)))))
noncomputable def fb_law_free_places_1 : FS :=
  (fSeq (fAsg (fCall 1 ff_law_open (rE (fSl (oV 0) (pSo (fVar 4)) (pSo (fOp ixF (oV 2) (oV 4)))) rNil)) 5)
  (fIfS (fTru (oE (fCB allF (lCons (oE (fLc (iSeq (fVar 5)) [6] (gName 6) tYes (fOp (inF false) (oV 6) (oV 1)))) lNil)))) (fDrop (fApp 3 (fVar 4))) fNext))
noncomputable def fb_law_free_places : FS :=
  (fSeq (fAsg (fCall 1 ff_law_open (rO 0 rNil)) 1)
  (fSeq (fAsg (fCall 1 ff_law_ends (rO 0 rNil)) 2)
  (fSeq (fAsg (fLstN fNil) 3)
  (fSeq (fFor (iRg rg1F (fCons (fCB lenF (lCons (oV 0) lNil)) fNil)) (gName 4) fb_law_free_places_1)
  (fRetZ 3)))))
noncomputable def ff_law_free_places : FF := fDef 1 6 (fb_law_free_places)
def td_law_free_places : DS :=
  (dSeq (dAsg (dCallN (fdN 1 ff_law_open) (dCons (dVar 0) dNil)) (dName 1))
  (dSeq (dAsg (dCallN (fdN 1 ff_law_ends) (dCons (dVar 0) dNil)) (dName 2))
  (dSeq (dAsg (dLst true dNil) (dName 3))
  (dSeq (dFor (diRange1 (dCons (dCB lenD (dCons (dVar 0) dNil)) dNil)) (dName 4) (dSeq (dAsg (dCallN (fdN 1 ff_law_open) (dCons (dSl false (dVar 0) (dPart (dVar 4)) (dPart (dOp ixD (dVar 2) (dVar 4)))) dNil)) (dName 5))
  (dIfS (dTru (dCB allD (dCons (dLc false (diSeq (dVar 5)) [6] (dName 6) dYes (dOp (inD false) (dVar 6) (dVar 1))) dNil))) (dDrop (dApp (dVar 3) (dVar 4))) dNext)))
  (dRet true (dVar 3))))))
theorem sm_law_free_places : SimS 1 (fb_law_free_places) (td_law_free_places) :=
  (s_seq (s_asg (s_call (r_o r_nil)) (by decide))
  (s_seq (s_asg (s_call (r_o r_nil)) (by decide))
  (s_seq (s_asg (s_lstN a_nil) (by decide))
  (s_seq (s_for (i_range1 (a_cons (s_callB lenF_ok (l_cons (o_v 0) l_nil)) a_nil)) (g_name 4) (s_seq (s_asg (s_call (r_e (s_sl (o_v 0) (p_so (s_var 4)) (p_so (s_op ixF_ok (o_v 2) (o_v 4)))) r_nil)) (by decide))
  (s_ifS (t_tru (fun _ _ _ h => h) (o_e (s_callB allF_ok (l_cons (o_e (s_lc (i_seq (s_var 5)) (g_name 6) t_yes (s_op inF_ok (o_v 6) (o_v 1)))) l_nil)))) (s_drop (s_app (s_var 4))) s_next)))
  (s_retZ (by decide))))))
noncomputable def fb_law_any : FS :=
  (fRet (fOp ixF (oV 1) (oE (fCall 2 ff_law_draw (rO 0 (rE (fCB lenF (lCons (oV 1) lNil)) rNil))))))
noncomputable def ff_law_any : FF := fDef 2 0 (fb_law_any)
def td_law_any : DS :=
  (dRet false (dOp ixD (dVar 1) (dCallN (fdN 2 ff_law_draw) (dCons (dVar 0) (dCons (dCB lenD (dCons (dVar 1) dNil)) dNil)))))
theorem sm_law_any : SimS 2 (fb_law_any) (td_law_any) :=
  (s_ret (s_op ixF_ok (o_v 1) (o_e (s_call (r_o (r_e (s_callB lenF_ok (l_cons (o_v 1) l_nil)) r_nil))))))
noncomputable def fb_is_integer : FS :=
  (fRet (fAndV (fCB isiF (lCons (oV 0) (lCons (oE (fC (.ty "int"))) lNil))) (fNotV (fCB isiF (lCons (oV 0) (lCons (oE (fC (.ty "bool"))) lNil))))))
noncomputable def ff_is_integer : FF := fDef 1 0 (fb_is_integer)
def td_is_integer : DS :=
  (dRet false (dAndV (dCB isiD (dCons (dVar 0) (dCons (dC (.ty "int")) dNil))) (dNotV (dCB isiD (dCons (dVar 0) (dCons (dC (.ty "bool")) dNil))))))
theorem sm_is_integer : SimS 1 (fb_is_integer) (td_is_integer) :=
  (s_ret (s_andV (s_callB isiF_ok (l_cons (o_v 0) (l_cons (o_e (s_c _)) l_nil))) (s_notV (s_callB isiF_ok (l_cons (o_v 0) (l_cons (o_e (s_c _)) l_nil))))))
noncomputable def fb_is_within : FS :=
  (fRet (fAndV (fCall 1 ff_is_integer (rO 0 rNil)) (fChain leF leF (oV 1) (oV 0) (oV 2))))
noncomputable def ff_is_within : FF := fDef 3 0 (fb_is_within)
def td_is_within : DS :=
  (dRet false (dAndV (dCallN (fdN 1 ff_is_integer) (dCons (dVar 0) dNil)) (dChain leD leD (dVar 1) (dVar 0) (dVar 2))))
theorem sm_is_within : SimS 3 (fb_is_within) (td_is_within) :=
  (s_ret (s_andV (s_call (r_o r_nil)) (s_chain ordF_ok ordF_ok (o_v 1) (o_v 0) (o_v 2))))
noncomputable def fb_check_place (c : Cs) : FS :=
  (fIfS (fNot (fTru (oE (fCall 3 ff_is_within (rO 1 (rE (fC (.int 0)) (rE (fOp subF (oE (fCB lenF (lCons (oE (fFld c.Pb "words" (oV 0))) lNil))) (oE (fC (.int 1)))) rNil))))))) fNever fNext)
noncomputable def ff_check_place (c : Cs) : FF := fDef 2 0 (fb_check_place c)
def td_check_place (c : Cs) : DS :=
  (dIfS (dNot (dTru (dCallN (fdN 3 ff_is_within) (dCons (dVar 1) (dCons (dC (.int 0)) (dCons (dOp subD (dCB lenD (dCons (dFld c.P "words" (dVar 0)) dNil)) (dC (.int 1))) dNil)))))) dNever dNext)
theorem sm_check_place {c : Cs} : SimS 2 (fb_check_place c) (td_check_place c) :=
  (s_ifS (t_not (t_tru (fun _ _ _ h => h) (o_e (s_call (r_o (r_e (s_c _) (r_e (s_op subF_ok (o_e (s_callB lenF_ok (l_cons (o_e (s_fld c.hP (o_v 0))) l_nil))) (o_e (s_c _))) r_nil))))))) s_never s_next)
noncomputable def fb_asked_by : FS :=
  (fSeq (fIfS (fTru (oE (fCall 1 ff_is_give (rO 0 rNil)))) (fRet (fC (.int 2))) fNext)
  (fRet (fIf (fTru (oE (fCall 1 ff_is_take (rO 0 rNil)))) (fC (.int 1)) (fC (.int 0)))))
noncomputable def ff_asked_by : FF := fDef 1 0 (fb_asked_by)
def td_asked_by : DS :=
  (dSeq (dIfS (dTru (dCallN (fdN 1 ff_is_give) (dCons (dVar 0) dNil))) (dRet false (dC (.int 2))) dNext)
  (dRet false (dIf (dTru (dCallN (fdN 1 ff_is_take) (dCons (dVar 0) dNil))) (dC (.int 1)) (dC (.int 0)))))
theorem sm_asked_by : SimS 1 (fb_asked_by) (td_asked_by) :=
  (s_seq (s_ifS (t_tru (fun _ _ _ h => h) (o_e (s_call (r_o r_nil)))) (s_ret (s_c _)) s_next)
  (s_ret (s_if (t_tru (fun _ _ _ h => h) (o_e (s_call (r_o r_nil)))) (s_c _) (s_c _))))
noncomputable def fb_raw_ends_1 : FS :=
  (fAsg (fPop 2) 4)
noncomputable def fb_raw_ends_2 : FS :=
  (fSeq (fAsg (fOp addF (oV 3) (oE (fC (.int 1)))) 4)
  (fSeq (fFor (iRg rg1F (fCons (fCall 1 ff_asked_by (rE (fOp ixF (oV 0) (oV 3)) rNil)) fNil)) (gName 5) fb_raw_ends_1)
  (fSeq (fSetIx 1 (fVar 3) (fVar 4))
  (fDrop (fApp 2 (fVar 4))))))
noncomputable def fb_raw_ends : FS :=
  (fSeq (fAsg (fOpN mulFN (oE (fLst (fCons (fC (.int 0)) fNil))) (oE (fCB lenF (lCons (oV 0) lNil)))) 1)
  (fSeq (fAsg (fLstN fNil) 2)
  (fSeq (fFor (iRg rg3F (fCons (fOp subF (oE (fCB lenF (lCons (oV 0) lNil))) (oE (fC (.int 1)))) (fCons (fUn negF (oE (fC (.int 1)))) (fCons (fUn negF (oE (fC (.int 1)))) fNil)))) (gName 3) fb_raw_ends_2)
  (fRet (fCB tupleF (lCons (oV 1) lNil))))))
noncomputable def ff_raw_ends : FF := fDef 1 5 (fb_raw_ends)
def td_raw_ends : DS :=
  (dSeq (dAsg (dOp (mulD true) (dLst false (dCons (dC (.int 0)) dNil)) (dCB lenD (dCons (dVar 0) dNil))) (dName 1))
  (dSeq (dAsg (dLst true dNil) (dName 2))
  (dSeq (dFor (diRange3 (dCons (dOp subD (dCB lenD (dCons (dVar 0) dNil)) (dC (.int 1))) (dCons (dUn negD (dC (.int 1))) (dCons (dUn negD (dC (.int 1))) dNil)))) (dName 3) (dSeq (dAsg (dOp (addD false) (dVar 3) (dC (.int 1))) (dName 4))
  (dSeq (dFor (diRange1 (dCons (dCallN (fdN 1 ff_asked_by) (dCons (dOp ixD (dVar 0) (dVar 3)) dNil)) dNil)) (dName 5) (dAsg (dMth popF (dVar 2) dNil) (dName 4)))
  (dSeq (dSetIx (dVar 4) (dVar 1) (dVar 3))
  (dDrop (dApp (dVar 2) (dVar 4)))))))
  (dRet false (dCB tupleD (dCons (dVar 1) dNil))))))
theorem sm_raw_ends : SimS 1 (fb_raw_ends) (td_raw_ends) :=
  (s_seq (s_asg (s_opN mulFN_ok (o_e (s_lst (a_cons (s_c _) a_nil))) (o_e (s_callB lenF_ok (l_cons (o_v 0) l_nil)))) (by decide))
  (s_seq (s_asg (s_lstN a_nil) (by decide))
  (s_seq (s_for (i_range3 (a_cons (s_op subF_ok (o_e (s_callB lenF_ok (l_cons (o_v 0) l_nil))) (o_e (s_c _))) (a_cons (s_un negF_ok (o_e (s_c _))) (a_cons (s_un negF_ok (o_e (s_c _))) a_nil)))) (g_name 3) (s_seq (s_asg (s_op addF_ok (o_v 3) (o_e (s_c _))) (by decide))
  (s_seq (s_for (i_range1 (a_cons (s_call (r_e (s_op ixF_ok (o_v 0) (o_v 3)) r_nil)) a_nil)) (g_name 5) (s_asg s_pop (by decide)))
  (s_seq (s_setIx (s_var 4) (s_var 3))
  (s_drop (s_app (s_var 4)))))))
  (s_ret (s_callB tupleF_ok (l_cons (o_v 1) l_nil))))))
noncomputable def fb_part (c : Cs) : FS :=
  (fSeq (fDrop (fCall 2 (ff_check_place c) (rO 0 (rO 1 rNil))))
  (fRet (fMake c.RawProgram 2 (ff_RawProgram_init c) (fCons (fSl (oE (fFld c.Pb "words" (oV 0))) (pSo (fVar 1)) (pSo (fOp ixF (oE (fCall 1 ff_raw_ends (rE (fFld c.Pb "words" (oV 0)) rNil))) (oV 1)))) fNil))))
noncomputable def ff_part (c : Cs) : FF := fDef 2 0 (fb_part c)
def td_part (c : Cs) : DS :=
  (dSeq (dDrop (dCallN (fdN 2 (ff_check_place c)) (dCons (dVar 0) (dCons (dVar 1) dNil))))
  (dRet false (dMake c.RawProgram (fdN 2 (ff_RawProgram_init c)) [] false (dCons (dSl false (dFld c.P "words" (dVar 0)) (dPart (dVar 1)) (dPart (dOp ixD (dCallN (fdN 1 ff_raw_ends) (dCons (dFld c.P "words" (dVar 0)) dNil)) (dVar 1)))) dNil))))
theorem sm_part {c : Cs} : SimS 2 (fb_part c) (td_part c) :=
  (s_seq (s_drop (s_call (r_o (r_o r_nil))))
  (s_ret (s_make (a_cons (s_sl (o_e (s_fld c.hP (o_v 0))) (p_so (s_var 1)) (p_so (s_op ixF_ok (o_e (s_call (r_e (s_fld c.hP (o_v 0)) r_nil))) (o_v 1)))) a_nil))))
noncomputable def fb_is_name : FS :=
  (fRet (fAndV (fCB isiF (lCons (oV 0) (lCons (oE (fC (.ty "str"))) lNil))) (fAndV (fChain leF leF (oE (fC (.int 1))) (oE (fCB lenF (lCons (oV 0) lNil))) (oE (fC (.int 8)))) (fCB allF (lCons (oE (fLc (iSeq (fVar 0)) [1] (gName 1) tYes (fChain leF leF (oE (fC (.str "a"))) (oV 1) (oE (fC (.str "z")))))) lNil)))))
noncomputable def ff_is_name : FF := fDef 1 1 (fb_is_name)
def td_is_name : DS :=
  (dRet false (dAndV (dCB isiD (dCons (dVar 0) (dCons (dC (.ty "str")) dNil))) (dAndV (dChain leD leD (dC (.int 1)) (dCB lenD (dCons (dVar 0) dNil)) (dC (.int 8))) (dCB allD (dCons (dLc false (diSeq (dVar 0)) [1] (dName 1) dYes (dChain leD leD (dC (.str "a")) (dVar 1) (dC (.str "z")))) dNil)))))
theorem sm_is_name : SimS 1 (fb_is_name) (td_is_name) :=
  (s_ret (s_andV (s_callB isiF_ok (l_cons (o_v 0) (l_cons (o_e (s_c _)) l_nil))) (s_andV (s_chain ordF_ok ordF_ok (o_e (s_c _)) (o_e (s_callB lenF_ok (l_cons (o_v 0) l_nil))) (o_e (s_c _))) (s_callB allF_ok (l_cons (o_e (s_lc (i_seq (s_var 0)) (g_name 1) t_yes (s_chain ordF_ok ordF_ok (o_e (s_c _)) (o_v 1) (o_e (s_c _))))) l_nil)))))
noncomputable def fb_uses : FS :=
  (fRet (fDc (iEnum (fCons (fVar 0) fNil)) [1, 2] (gTup 2 (gCons (gName 1) (gCons (gName 2) gNil))) (fAnd (fNot (fTru (oE (fCall 1 ff_is_give (rO 2 rNil))))) (fNot (fTru (oE (fCall 1 ff_is_take (rO 2 rNil)))))) (fVar 2) (fVar 1)))
noncomputable def ff_uses : FF := fDef 1 2 (fb_uses)
def td_uses : DS :=
  (dRet false (dDc false (diEnum (dCons (dVar 0) dNil)) [1, 2] (dgTup 2 (dgCons (dName 1) (dgCons (dName 2) dgNil))) (dAnd (dNot (dTru (dCallN (fdN 1 ff_is_give) (dCons (dVar 2) dNil)))) (dNot (dTru (dCallN (fdN 1 ff_is_take) (dCons (dVar 2) dNil))))) (dVar 2) (dVar 1)))
theorem sm_uses : SimS 1 (fb_uses) (td_uses) :=
  (s_ret (s_dc (i_enum (a_cons (s_var 0) a_nil)) (g_tup (g_cons (g_name 1) (g_cons (g_name 2) g_nil))) (t_and (t_not (t_tru (fun _ _ _ h => h) (o_e (s_call (r_o r_nil))))) (t_not (t_tru (fun _ _ _ h => h) (o_e (s_call (r_o r_nil)))))) (s_var 2) (s_var 1)))
noncomputable def fb_apart_1 : FS :=
  (fIfS (fOr (fTru (oE (fCall 1 ff_is_give (rO 4 rNil)))) (fTest (fOp (inF false) (oE (fCall 1 ff_name_of (rO 4 rNil))) (oV 2)))) (fDrop (fApp 3 (fVar 4))) (fDrop (fApp 3 (fIf (fTru (oE (fCall 1 ff_is_take (rO 4 rNil)))) (fOp addF (oE (fOp addF (oE (fC (.str "/"))) (oV 1))) (oE (fCall 1 ff_name_of (rO 4 rNil)))) (fOp addF (oV 1) (oV 4))))))
noncomputable def fb_apart : FS :=
  (fSeq (fAsg (fDc (iSeq (fCall 1 ff_raw_open (rO 0 rNil))) [5] (gName 5) tYes (fVar 5) (fC (.bl true))) 2)
  (fSeq (fAsg (fLstN fNil) 3)
  (fSeq (fFor (iSeq (fVar 0)) (gName 4) fb_apart_1)
  (fRet (fCB tupleF (lCons (oV 3) lNil))))))
noncomputable def ff_apart : FF := fDef 2 4 (fb_apart)
def td_apart : DS :=
  (dSeq (dAsg (dDc false (diSeq (dCallN (fdN 1 ff_raw_open) (dCons (dVar 0) dNil))) [5] (dName 5) dYes (dVar 5) (dC (.bl true))) (dName 2))
  (dSeq (dAsg (dLst true dNil) (dName 3))
  (dSeq (dFor (diSeq (dVar 0)) (dName 4) (dIfS (dOr (dTru (dCallN (fdN 1 ff_is_give) (dCons (dVar 4) dNil))) (dTest (dOp (inD false) (dCallN (fdN 1 ff_name_of) (dCons (dVar 4) dNil)) (dVar 2)))) (dDrop (dApp (dVar 3) (dVar 4))) (dDrop (dApp (dVar 3) (dIf (dTru (dCallN (fdN 1 ff_is_take) (dCons (dVar 4) dNil))) (dOp (addD false) (dOp (addD false) (dC (.str "/")) (dVar 1)) (dCallN (fdN 1 ff_name_of) (dCons (dVar 4) dNil))) (dOp (addD false) (dVar 1) (dVar 4)))))))
  (dRet false (dCB tupleD (dCons (dVar 3) dNil))))))
theorem sm_apart : SimS 2 (fb_apart) (td_apart) :=
  (s_seq (s_asg (s_dc (i_seq (s_call (r_o r_nil))) (g_name 5) t_yes (s_var 5) (s_c _)) (by decide))
  (s_seq (s_asg (s_lstN a_nil) (by decide))
  (s_seq (s_for (i_seq (s_var 0)) (g_name 4) (s_ifS (t_or (t_tru (fun _ _ _ h => h) (o_e (s_call (r_o r_nil)))) (t_test (s_op inF_ok (o_e (s_call (r_o r_nil))) (o_v 2)))) (s_drop (s_app (s_var 4))) (s_drop (s_app (s_if (t_tru (fun _ _ _ h => h) (o_e (s_call (r_o r_nil)))) (s_op addF_ok (o_e (s_op addF_ok (o_e (s_c _)) (o_v 1))) (o_e (s_call (r_o r_nil)))) (s_op addF_ok (o_v 1) (o_v 4)))))))
  (s_ret (s_callB tupleF_ok (l_cons (o_v 3) l_nil))))))
noncomputable def fb_put_in (c : Cs) : FS :=
  (fSeq (fAsg (fCall 1 ff_raw_open (rE (fFld c.Pb "words" (oV 0)) rNil)) 3)
  (fSeq (fIfS (fOr (fNot (fTru (oE (fCall 1 ff_is_name (rO 1 rNil))))) (fTest (fOp (inF true) (oV 1) (oV 3)))) fNever fNext)
  (fSeq (fIfS (fTest (fOp gtF (oE (fCB lenF (lCons (oE (fLc (iSeq (fCall 1 ff_raw_open (rE (fFld c.Pb "words" (oV 2)) rNil))) [6] (gName 6) (fAnd (fTest (fOp (inF false) (oV 6) (oV 3))) (fTest (fOp (eqF true) (oV 6) (oV 1)))) (fVar 6))) lNil))) (oE (fC (.int 0))))) fNever fNext)
  (fSeq (fAsg (fOp ixF (oE (fCall 1 ff_uses (rE (fFld c.Pb "words" (oV 0)) rNil))) (oV 1)) 4)
  (fSeq (fAsg (fCall 2 ff_apart (rE (fFld c.Pb "words" (oV 0)) (rE (fC (.str "1")) rNil))) 5)
  (fRet (fMake c.RawProgram 2 (ff_RawProgram_init c) (fCons (fCall 1 ff_raw_standard (rE (fOp addF (oE (fOp addF (oE (fSl (oV 5) pNo (pSo (fVar 4)))) (oE (fCall 2 ff_apart (rE (fFld c.Pb "words" (oV 2)) (rE (fC (.str "2")) rNil)))))) (oE (fSl (oV 5) (pSo (fOp addF (oV 4) (oE (fC (.int 1))))) pNo))) rNil)) fNil))))))))
noncomputable def ff_put_in (c : Cs) : FF := fDef 3 4 (fb_put_in c)
def td_put_in (c : Cs) : DS :=
  (dSeq (dAsg (dCallN (fdN 1 ff_raw_open) (dCons (dFld c.P "words" (dVar 0)) dNil)) (dName 3))
  (dSeq (dIfS (dOr (dNot (dTru (dCallN (fdN 1 ff_is_name) (dCons (dVar 1) dNil)))) (dTest (dOp (inD true) (dVar 1) (dVar 3)))) dNever dNext)
  (dSeq (dIfS (dTest (dOp gtD (dCB lenD (dCons (dLc false (diSeq (dCallN (fdN 1 ff_raw_open) (dCons (dFld c.P "words" (dVar 2)) dNil))) [6] (dName 6) (dAnd (dTest (dOp (inD false) (dVar 6) (dVar 3))) (dTest (dOp (eqD true) (dVar 6) (dVar 1)))) (dVar 6)) dNil)) (dC (.int 0)))) dNever dNext)
  (dSeq (dAsg (dOp ixD (dCallN (fdN 1 ff_uses) (dCons (dFld c.P "words" (dVar 0)) dNil)) (dVar 1)) (dName 4))
  (dSeq (dAsg (dCallN (fdN 2 ff_apart) (dCons (dFld c.P "words" (dVar 0)) (dCons (dC (.str "1")) dNil))) (dName 5))
  (dRet false (dMake c.RawProgram (fdN 2 (ff_RawProgram_init c)) [] false (dCons (dCallN (fdN 1 ff_raw_standard) (dCons (dOp (addD false) (dOp (addD false) (dSl false (dVar 5) dNoPart (dPart (dVar 4))) (dCallN (fdN 2 ff_apart) (dCons (dFld c.P "words" (dVar 2)) (dCons (dC (.str "2")) dNil)))) (dSl false (dVar 5) (dPart (dOp (addD false) (dVar 4) (dC (.int 1)))) dNoPart)) dNil)) dNil))))))))
theorem sm_put_in {c : Cs} : SimS 3 (fb_put_in c) (td_put_in c) :=
  (s_seq (s_asg (s_call (r_e (s_fld c.hP (o_v 0)) r_nil)) (by decide))
  (s_seq (s_ifS (t_or (t_not (t_tru (fun _ _ _ h => h) (o_e (s_call (r_o r_nil))))) (t_test (s_op inF_ok (o_v 1) (o_v 3)))) s_never s_next)
  (s_seq (s_ifS (t_test (s_op ordF_ok (o_e (s_callB lenF_ok (l_cons (o_e (s_lc (i_seq (s_call (r_e (s_fld c.hP (o_v 2)) r_nil))) (g_name 6) (t_and (t_test (s_op inF_ok (o_v 6) (o_v 3))) (t_test (s_op eqF_ok (o_v 6) (o_v 1)))) (s_var 6))) l_nil))) (o_e (s_c _)))) s_never s_next)
  (s_seq (s_asg (s_op ixF_ok (o_e (s_call (r_e (s_fld c.hP (o_v 0)) r_nil))) (o_v 1)) (by decide))
  (s_seq (s_asg (s_call (r_e (s_fld c.hP (o_v 0)) (r_e (s_c _) r_nil))) (by decide))
  (s_ret (s_make (a_cons (s_call (r_e (s_op addF_ok (o_e (s_op addF_ok (o_e (s_sl (o_v 5) p_no (p_so (s_var 4)))) (o_e (s_call (r_e (s_fld c.hP (o_v 2)) (r_e (s_c _) r_nil)))))) (o_e (s_sl (o_v 5) (p_so (s_op addF_ok (o_v 4) (o_e (s_c _)))) p_no))) r_nil)) a_nil))))))))
noncomputable def fb_same (c : Cs) : FS :=
  (fRet (fOp (eqF false) (oE (fCall 1 ff_raw_standard (rE (fFld c.Pb "words" (oV 0)) rNil))) (oE (fCall 1 ff_raw_standard (rE (fFld c.Pb "words" (oV 1)) rNil)))))
noncomputable def ff_same (c : Cs) : FF := fDef 2 0 (fb_same c)
def td_same (c : Cs) : DS :=
  (dRet false (dOp (eqD false) (dCallN (fdN 1 ff_raw_standard) (dCons (dFld c.P "words" (dVar 0)) dNil)) (dCallN (fdN 1 ff_raw_standard) (dCons (dFld c.P "words" (dVar 1)) dNil))))
theorem sm_same {c : Cs} : SimS 2 (fb_same c) (td_same c) :=
  (s_ret (s_op eqF_ok (o_e (s_call (r_e (s_fld c.hP (o_v 0)) r_nil))) (o_e (s_call (r_e (s_fld c.hP (o_v 1)) r_nil)))))
noncomputable def fb_is_word : FS :=
  (fSeq (fIfS (fNot (fTru (oE (fCB isiF (lCons (oV 0) (lCons (oE (fC (.ty "str"))) lNil)))))) (fRet (fC (.bl false))) fNext)
  (fRet (fOrV (fOp (eqF false) (oV 0) (oE (fC (.str "@")))) (fOrV (fCall 1 ff_is_name (rO 0 rNil)) (fAndV (fOp (eqF false) (oE (fSl (oV 0) pNo (pSo (fC (.int 1))))) (oE (fC (.str "/")))) (fCall 1 ff_is_name (rE (fSl (oV 0) (pSo (fC (.int 1))) pNo) rNil)))))))
noncomputable def ff_is_word : FF := fDef 1 0 (fb_is_word)
def td_is_word : DS :=
  (dSeq (dIfS (dNot (dTru (dCB isiD (dCons (dVar 0) (dCons (dC (.ty "str")) dNil))))) (dRet false (dC (.bl false))) dNext)
  (dRet false (dOrV (dOp (eqD false) (dVar 0) (dC (.str "@"))) (dOrV (dCallN (fdN 1 ff_is_name) (dCons (dVar 0) dNil)) (dAndV (dOp (eqD false) (dSl false (dVar 0) dNoPart (dPart (dC (.int 1)))) (dC (.str "/"))) (dCallN (fdN 1 ff_is_name) (dCons (dSl false (dVar 0) (dPart (dC (.int 1))) dNoPart) dNil)))))))
theorem sm_is_word : SimS 1 (fb_is_word) (td_is_word) :=
  (s_seq (s_ifS (t_not (t_tru (fun _ _ _ h => h) (o_e (s_callB isiF_ok (l_cons (o_v 0) (l_cons (o_e (s_c _)) l_nil)))))) (s_ret (s_c _)) s_next)
  (s_ret (s_orV (s_op eqF_ok (o_v 0) (o_e (s_c _))) (s_orV (s_call (r_o r_nil)) (s_andV (s_op eqF_ok (o_e (s_sl (o_v 0) p_no (p_so (s_c _)))) (o_e (s_c _))) (s_call (r_e (s_sl (o_v 0) (p_so (s_c _)) p_no) r_nil)))))))
noncomputable def fb_wrong_end_1 : FS :=
  (fSeq (fIfS (fTest (fOp (eqF false) (oV 1) (oE (fC (.int 0))))) (fRet (fVar 2)) fNext)
  (fAug 1 iaddF (oE (fOp subF (oE (fCall 1 ff_asked_by (rO 3 rNil))) (oE (fC (.int 1)))))))
noncomputable def fb_wrong_end : FS :=
  (fSeq (fAsg (fC (.int 1)) 1)
  (fSeq (fFor (iEnum (fCons (fVar 0) fNil)) (gTup 2 (gCons (gName 2) (gCons (gName 3) gNil))) fb_wrong_end_1)
  (fRet (fIf (fTest (fOp gtF (oV 1) (oE (fC (.int 0))))) (fCB lenF (lCons (oV 0) lNil)) (fC .non)))))
noncomputable def ff_wrong_end : FF := fDef 1 3 (fb_wrong_end)
def td_wrong_end : DS :=
  (dSeq (dAsg (dC (.int 1)) (dName 1))
  (dSeq (dFor (diEnum (dCons (dVar 0) dNil)) (dgTup 2 (dgCons (dName 2) (dgCons (dName 3) dgNil))) (dSeq (dIfS (dTest (dOp (eqD false) (dVar 1) (dC (.int 0)))) (dRet false (dVar 2)) dNext)
  (dAug 1 iaddD (dOp subD (dCallN (fdN 1 ff_asked_by) (dCons (dVar 3) dNil)) (dC (.int 1))))))
  (dRet false (dIf (dTest (dOp gtD (dVar 1) (dC (.int 0)))) (dCB lenD (dCons (dVar 0) dNil)) (dC .non)))))
theorem sm_wrong_end : SimS 1 (fb_wrong_end) (td_wrong_end) :=
  (s_seq (s_asg (s_c _) (by decide))
  (s_seq (s_for (i_enum (a_cons (s_var 0) a_nil)) (g_tup (g_cons (g_name 2) (g_cons (g_name 3) g_nil))) (s_seq (s_ifS (t_test (s_op eqF_ok (o_v 1) (o_e (s_c _)))) (s_ret (s_var 2)) s_next)
  (s_aug iaddF_ok (o_e (s_op subF_ok (o_e (s_call (r_o r_nil))) (o_e (s_c _)))))))
  (s_ret (s_if (t_test (s_op ordF_ok (o_v 1) (o_e (s_c _)))) (s_callB lenF_ok (l_cons (o_v 0) l_nil)) (s_c _)))))
noncomputable def fb_wrong_second_1 : FS :=
  (fIfS (fNot (fTru (oE (fCall 1 ff_is_give (rO 3 rNil))))) (fSeq (fIfS (fTest (fOp (inF false) (oV 3) (oV 1))) (fRet (fVar 2)) fNext)
  (fSetIx 1 (fVar 3) (fC (.bl true)))) fNext)
noncomputable def fb_wrong_second : FS :=
  (fSeq (fAsg fDicN 1)
  (fSeq (fFor (iEnum (fCons (fVar 0) fNil)) (gTup 2 (gCons (gName 2) (gCons (gName 3) gNil))) fb_wrong_second_1)
  (fRet (fC .non))))
noncomputable def ff_wrong_second : FF := fDef 1 3 (fb_wrong_second)
def td_wrong_second : DS :=
  (dSeq (dAsg (dDic0 true) (dName 1))
  (dSeq (dFor (diEnum (dCons (dVar 0) dNil)) (dgTup 2 (dgCons (dName 2) (dgCons (dName 3) dgNil))) (dIfS (dNot (dTru (dCallN (fdN 1 ff_is_give) (dCons (dVar 3) dNil)))) (dSeq (dIfS (dTest (dOp (inD false) (dVar 3) (dVar 1))) (dRet false (dVar 2)) dNext)
  (dSetIx (dC (.bl true)) (dVar 1) (dVar 3))) dNext))
  (dRet false (dC .non))))
theorem sm_wrong_second : SimS 1 (fb_wrong_second) (td_wrong_second) :=
  (s_seq (s_asg s_dicN (by decide))
  (s_seq (s_for (i_enum (a_cons (s_var 0) a_nil)) (g_tup (g_cons (g_name 2) (g_cons (g_name 3) g_nil))) (s_ifS (t_not (t_tru (fun _ _ _ h => h) (o_e (s_call (r_o r_nil))))) (s_seq (s_ifS (t_test (s_op inF_ok (o_v 3) (o_v 1))) (s_ret (s_var 2)) s_next)
  (s_setIx (s_c _) (s_var 3))) s_next))
  (s_ret (s_c _))))
noncomputable def fb_wrong_take_1 : FS :=
  (fIfS (fAnd (fTru (oE (fCall 1 ff_is_take (rO 4 rNil)))) (fNot (fTest (fChain ltF ltF (oV 3) (oE (fGet2 (oV 2) (fCall 1 ff_name_of (rO 4 rNil)) (fUn negF (oE (fC (.int 1)))))) (oE (fOp ixF (oV 1) (oV 3))))))) (fRet (fVar 3)) fNext)
noncomputable def fb_wrong_take : FS :=
  (fSeq (fAsg (fCall 1 ff_raw_ends (rO 0 rNil)) 1)
  (fSeq (fAsg (fCall 1 ff_uses (rO 0 rNil)) 2)
  (fSeq (fFor (iEnum (fCons (fVar 0) fNil)) (gTup 2 (gCons (gName 3) (gCons (gName 4) gNil))) fb_wrong_take_1)
  (fRet (fC .non)))))
noncomputable def ff_wrong_take : FF := fDef 1 4 (fb_wrong_take)
def td_wrong_take : DS :=
  (dSeq (dAsg (dCallN (fdN 1 ff_raw_ends) (dCons (dVar 0) dNil)) (dName 1))
  (dSeq (dAsg (dCallN (fdN 1 ff_uses) (dCons (dVar 0) dNil)) (dName 2))
  (dSeq (dFor (diEnum (dCons (dVar 0) dNil)) (dgTup 2 (dgCons (dName 3) (dgCons (dName 4) dgNil))) (dIfS (dAnd (dTru (dCallN (fdN 1 ff_is_take) (dCons (dVar 4) dNil))) (dNot (dTest (dChain ltD ltD (dVar 3) (dGet2 (dVar 2) (dCallN (fdN 1 ff_name_of) (dCons (dVar 4) dNil)) (dUn negD (dC (.int 1)))) (dOp ixD (dVar 1) (dVar 3)))))) (dRet false (dVar 3)) dNext))
  (dRet false (dC .non)))))
theorem sm_wrong_take : SimS 1 (fb_wrong_take) (td_wrong_take) :=
  (s_seq (s_asg (s_call (r_o r_nil)) (by decide))
  (s_seq (s_asg (s_call (r_o r_nil)) (by decide))
  (s_seq (s_for (i_enum (a_cons (s_var 0) a_nil)) (g_tup (g_cons (g_name 3) (g_cons (g_name 4) g_nil))) (s_ifS (t_and (t_tru (fun _ _ _ h => h) (o_e (s_call (r_o r_nil)))) (t_not (t_test (s_chain ordF_ok ordF_ok (o_v 3) (o_e (s_get2 (o_v 2) (s_call (r_o r_nil)) (s_un negF_ok (o_e (s_c _))))) (o_e (s_op ixF_ok (o_v 1) (o_v 3))))))) (s_ret (s_var 3)) s_next))
  (s_ret (s_c _)))))
noncomputable def fb_fault_in_1 (c : Cs) : FS :=
  (fIfS (fNot (fTru (oE (fCall 1 ff_is_word (rO 3 rNil))))) (fRet (fVar 2)) fNext)
noncomputable def fb_fault_in_2 (a : Addr) (ff : FF) : FS :=
  (fSeq (fAsg (fCallV 1 a 1 ff (fCons (fVar 0) fNil)) 4)
  (fIfS (fTest (fOp (isNF true) (oV 4) (oE (fC .non)))) (fRet (fVar 4)) fNext))
noncomputable def fb_fault_in (c : Cs) : FS :=
  (fSeq (fFor (iEnum (fCons (fVar 0) fNil)) (gTup 2 (gCons (gName 2) (gCons (gName 3) gNil))) (fb_fault_in_1 c))
  (fSeq (fForF 1 [(c.f_wrong_end, ff_wrong_end), (c.f_wrong_second, ff_wrong_second), (c.f_wrong_take, ff_wrong_take)] fb_fault_in_2)
  (fRet (fC .non))))
noncomputable def ff_fault_in (c : Cs) : FF := fDef 1 4 (fb_fault_in c)
def td_fault_in (c : Cs) : DS :=
  (dSeq (dFor (diEnum (dCons (dVar 0) dNil)) (dgTup 2 (dgCons (dName 2) (dgCons (dName 3) dgNil))) (dIfS (dNot (dTru (dCallN (fdN 1 ff_is_word) (dCons (dVar 3) dNil)))) (dRet false (dVar 2)) dNext))
  (dSeq (dFor (diSeq (dTup (dCons (dC (.ref c.f_wrong_end)) (dCons (dC (.ref c.f_wrong_second)) (dCons (dC (.ref c.f_wrong_take)) dNil))))) (dName 1) (dSeq (dAsg (dCallE (dVar 1) (S3 c.f_wrong_end c.f_wrong_second c.f_wrong_take (fdN 1 ff_wrong_end) (fdN 1 ff_wrong_second) (fdN 1 ff_wrong_take)) [] (dCons (dVar 0) dNil)) (dName 4))
  (dIfS (dTest (dOp (isND true) (dVar 4) (dC .non))) (dRet false (dVar 4)) dNext)))
  (dRet false (dC .non))))
theorem sm_fault_in {c : Cs} : SimS 1 (fb_fault_in c) (td_fault_in c) :=
  (s_seq (s_for (i_enum (a_cons (s_var 0) a_nil)) (g_tup (g_cons (g_name 2) (g_cons (g_name 3) g_nil))) (s_ifS (t_not (t_tru (fun _ _ _ h => h) (o_e (s_call (r_o r_nil))))) (s_ret (s_var 2)) s_next))
  (s_seq (s_forF3 (n := 1) (fun a ff hS => (s_seq (s_asg (s_callV hS (a_cons (s_var 0) a_nil)) (by decide))
  (s_ifS (t_test (s_op isNF_ok (o_v 4) (o_e (s_c _)))) (s_ret (s_var 4)) s_next))))
  (s_ret (s_c _))))
noncomputable def fb_Program_init (c : Cs) : FS :=
  (fSeq (fIfS (fOr (fNot (fTru (oE (fCB isiF (lCons (oV 1) (lCons (oE (fC (.ty "tuple"))) lNil)))))) (fNot (fTest (fChain leF leF (oE (fC (.int 1))) (oE (fCB lenF (lCons (oV 1) lNil))) (oE (fC (.int 1000))))))) fNever fNext)
  (fSeq (fAsg (fCall 1 (ff_fault_in c) (rO 1 rNil)) 2)
  (fSeq (fIfS (fTest (fOp (isNF true) (oV 2) (oE (fC .non)))) fNever fNext)
  (fSetF c.Pb "words" (fVar 1) 0))))
noncomputable def ff_Program_init (c : Cs) : FF := fDef 2 1 (fb_Program_init c)
def td_Program_init (c : Cs) : DS :=
  (dSeq (dIfS (dOr (dNot (dTru (dCB isiD (dCons (dVar 1) (dCons (dC (.ty "tuple")) dNil))))) (dNot (dTest (dChain leD leD (dC (.int 1)) (dCB lenD (dCons (dVar 1) dNil)) (dC (.int 1000)))))) dNever dNext)
  (dSeq (dAsg (dCallN (fdN 1 (ff_fault_in c)) (dCons (dVar 1) dNil)) (dName 2))
  (dSeq (dIfS (dTest (dOp (isND true) (dVar 2) (dC .non))) dNever dNext)
  (dSetF c.P "words" (dVar 1) (dVar 0)))))
theorem sm_Program_init {c : Cs} : SimS 2 (fb_Program_init c) (td_Program_init c) :=
  (s_seq (s_ifS (t_or (t_not (t_tru (fun _ _ _ h => h) (o_e (s_callB isiF_ok (l_cons (o_v 1) (l_cons (o_e (s_c _)) l_nil)))))) (t_not (t_test (s_chain ordF_ok ordF_ok (o_e (s_c _)) (o_e (s_callB lenF_ok (l_cons (o_v 1) l_nil))) (o_e (s_c _)))))) s_never s_next)
  (s_seq (s_asg (s_call (r_o r_nil)) (by decide))
  (s_seq (s_ifS (t_test (s_op isNF_ok (o_v 2) (o_e (s_c _)))) s_never s_next)
  (s_setF c.hP (s_var 1)))))
noncomputable def fb_Program_eq (c : Cs) : FS :=
  (fRet (fAndV (fCB (isiOF c.rel) (lCons (oV 1) (lCons (oE (fC (.cls c.Program))) lNil))) (fOp (eqF false) (oE (fFld c.Pb "words" (oV 0))) (oE (fFld c.Pb "words" (oV 1))))))
noncomputable def ff_Program_eq (c : Cs) : FF := fDef 2 0 (fb_Program_eq c)
def td_Program_eq (c : Cs) : DS :=
  (dRet false (dAndV (dCB (isiOD c.rel) (dCons (dVar 1) (dCons (dC (.cls c.Program)) dNil))) (dOp (eqD false) (dFld c.P "words" (dVar 0)) (dFld c.P "words" (dVar 1)))))
theorem sm_Program_eq {c : Cs} : SimS 2 (fb_Program_eq c) (td_Program_eq c) :=
  (s_ret (s_andV (s_callB isiOF_ok (l_cons (o_v 1) (l_cons (o_e (s_c _)) l_nil))) (s_op eqF_ok (o_e (s_fld c.hP (o_v 0))) (o_e (s_fld c.hP (o_v 1))))))
noncomputable def fb_law_1 (c : Cs) : FS :=
  (fSeq (fAsg (fCall 2 (ff_part c) (rO 4 (rO 10 rNil))) 11)
  (fSeq (fAsg (fMake c.Program 2 (ff_Program_init c) (fCons (fOp addF (oE (fOp addF (oE (fSl (oV 3) pNo (pSo (fVar 10)))) (oE (fTup (fCons (fVar 9) fNil))))) (oE (fSl (oV 3) (pSo (fOp ixF (oV 6) (oV 10))) pNo))) fNil)) 12)
  (fSeq (fAsg (fCall 3 (ff_put_in c) (rO 12 (rO 9 (rO 11 rNil)))) 13)
  (fSeq (fIfS (fOr (fNot (fTru (oE (fCB (isiOF c.rel) (lCons (oV 13) (lCons (oE (fC (.cls c.Program))) lNil)))))) (fOr (fTest (fEqO c.eqProgramb (ff_Program_eq c) true (fVar 13) (fVar 5))) (fTest (fOp (isBF true) (oE (fCall 2 (ff_same c) (rO 13 (rO 4 rNil)))) (oE (fC (.bl true))))))) (fRet (fC (.bl false))) fNext)
  (fSeq (fAsg (fCall 2 ff_law_any (rO 1 (rE (fCall 1 ff_law_free_places (rE (fFld c.Pb "words" (oV 11)) rNil)) rNil))) 14)
  (fSeq (fAsg (fCall 2 ff_law_fresh (rO 1 (rO 8 rNil))) 15)
  (fSeq (fAsg (fOp addF (oE (fOp addF (oE (fSl (oE (fFld c.Pb "words" (oV 11))) pNo (pSo (fVar 14)))) (oE (fTup (fCons (fVar 15) fNil))))) (oE (fSl (oE (fFld c.Pb "words" (oV 11))) (pSo (fOp ixF (oE (fCall 1 ff_law_ends (rE (fFld c.Pb "words" (oV 11)) rNil))) (oV 14))) pNo))) 16)
  (fSeq (fAsg (fCall 3 (ff_put_in c) (rE (fCall 3 (ff_put_in c) (rO 12 (rO 9 (rE (fMake c.Program 2 (ff_Program_init c) (fCons (fVar 16) fNil)) rNil)))) (rO 15 (rE (fCall 2 (ff_part c) (rO 11 (rO 14 rNil))) rNil)))) 13)
  (fIfS (fTest (fEqO c.eqProgramb (ff_Program_eq c) true (fVar 13) (fVar 5))) (fRet (fC (.bl false))) fNext)))))))))
noncomputable def fb_law_2 (c : Cs) : FS :=
  (fSeq (fAsg (fCall 3 ff_law_program (rO 1 (rE (fC (.int 60)) (rE (fC (.int 4)) rNil)))) 3)
  (fSeq (fAsg (fMake c.Program 2 (ff_Program_init c) (fCons (fVar 3) fNil)) 4)
  (fSeq (fAsg (fCall 1 (ff_standard c) (rO 4 rNil)) 5)
  (fSeq (fAsg (fCall 1 ff_law_ends (rO 3 rNil)) 6)
  (fSeq (fAsg (fCall 1 ff_law_free_places (rO 3 rNil)) 7)
  (fSeq (fIfS (fTest (fOp gtF (oE (fCB lenF (lCons (oV 7) lNil))) (oE (fC (.int 30))))) (fAsg (fLc (iRg rg1F (fCons (fC (.int 30)) fNil)) [17] (gName 17) tYes (fCall 2 ff_law_any (rO 1 (rO 7 rNil)))) 7) fNext)
  (fSeq (fAsg (fOpN addFN (oE (fLc (iSeq (fVar 3)) [18] (gName 18) (fTest (fOp (eqF true) (oV 18) (oE (fC (.str "@"))))) (fVar 18))) (oE (fLc (iSeq (fVar 3)) [18] (gName 18) (fTest (fOp (eqF false) (oE (fSl (oV 18) pNo (pSo (fC (.int 1))))) (oE (fC (.str "/"))))) (fSl (oV 18) (pSo (fC (.int 1))) pNo)))) 8)
  (fSeq (fAsg (fCall 2 ff_law_fresh (rO 1 (rO 8 rNil))) 9)
  (fFor (iSeq (fVar 7)) (gName 10) (fb_law_1 c))))))))))
noncomputable def fb_law (c : Cs) : FS :=
  (fSeq (fAsg (fCall 1 ff_law_pot (rO 0 rNil)) 1)
  (fSeq (fFor (iRg rg1F (fCons (fOp addF (oE (fC (.int 2))) (oE (fOp divF (oE (fCB lenF (lCons (oE (fSl (oV 0) pNo (pSo (fC (.int 63))))) lNil))) (oE (fC (.int 16)))))) fNil)) (gName 2) (fb_law_2 c))
  (fRet (fC (.bl true)))))
noncomputable def ff_law (c : Cs) : FF := fDef 1 18 (fb_law c)
def td_law (c : Cs) : DS :=
  (dSeq (dAsg (dCallN (fdN 1 ff_law_pot) (dCons (dVar 0) dNil)) (dName 1))
  (dSeq (dFor (diRange1 (dCons (dOp (addD false) (dC (.int 2)) (dOp divD (dCB lenD (dCons (dSl false (dVar 0) dNoPart (dPart (dC (.int 63)))) dNil)) (dC (.int 16)))) dNil)) (dName 2) (dSeq (dAsg (dCallN (fdN 3 ff_law_program) (dCons (dVar 1) (dCons (dC (.int 60)) (dCons (dC (.int 4)) dNil)))) (dName 3))
  (dSeq (dAsg (dMake c.Program (fdN 2 (ff_Program_init c)) [] false (dCons (dVar 3) dNil)) (dName 4))
  (dSeq (dAsg (dCallN (fdN 1 (ff_standard c)) (dCons (dVar 4) dNil)) (dName 5))
  (dSeq (dAsg (dCallN (fdN 1 ff_law_ends) (dCons (dVar 3) dNil)) (dName 6))
  (dSeq (dAsg (dCallN (fdN 1 ff_law_free_places) (dCons (dVar 3) dNil)) (dName 7))
  (dSeq (dIfS (dTest (dOp gtD (dCB lenD (dCons (dVar 7) dNil)) (dC (.int 30)))) (dAsg (dLc false (diRange1 (dCons (dC (.int 30)) dNil)) [17] (dName 17) dYes (dCallN (fdN 2 ff_law_any) (dCons (dVar 1) (dCons (dVar 7) dNil)))) (dName 7)) dNext)
  (dSeq (dAsg (dOp (addD true) (dLc false (diSeq (dVar 3)) [18] (dName 18) (dTest (dOp (eqD true) (dVar 18) (dC (.str "@")))) (dVar 18)) (dLc false (diSeq (dVar 3)) [18] (dName 18) (dTest (dOp (eqD false) (dSl false (dVar 18) dNoPart (dPart (dC (.int 1)))) (dC (.str "/")))) (dSl false (dVar 18) (dPart (dC (.int 1))) dNoPart))) (dName 8))
  (dSeq (dAsg (dCallN (fdN 2 ff_law_fresh) (dCons (dVar 1) (dCons (dVar 8) dNil))) (dName 9))
  (dFor (diSeq (dVar 7)) (dName 10) (dSeq (dAsg (dCallN (fdN 2 (ff_part c)) (dCons (dVar 4) (dCons (dVar 10) dNil))) (dName 11))
  (dSeq (dAsg (dMake c.Program (fdN 2 (ff_Program_init c)) [] false (dCons (dOp (addD false) (dOp (addD false) (dSl false (dVar 3) dNoPart (dPart (dVar 10))) (dTup (dCons (dVar 9) dNil))) (dSl false (dVar 3) (dPart (dOp ixD (dVar 6) (dVar 10))) dNoPart)) dNil)) (dName 12))
  (dSeq (dAsg (dCallN (fdN 3 (ff_put_in c)) (dCons (dVar 12) (dCons (dVar 9) (dCons (dVar 11) dNil)))) (dName 13))
  (dSeq (dIfS (dOr (dNot (dTru (dCB (isiOD c.rel) (dCons (dVar 13) (dCons (dC (.cls c.Program)) dNil))))) (dOr (dTest (dEqO c.eqProgram (fdN 2 (ff_Program_eq c)) true (dVar 13) (dVar 5))) (dTest (dOp (isBD true) (dCallN (fdN 2 (ff_same c)) (dCons (dVar 13) (dCons (dVar 4) dNil))) (dC (.bl true)))))) (dRet false (dC (.bl false))) dNext)
  (dSeq (dAsg (dCallN (fdN 2 ff_law_any) (dCons (dVar 1) (dCons (dCallN (fdN 1 ff_law_free_places) (dCons (dFld c.P "words" (dVar 11)) dNil)) dNil))) (dName 14))
  (dSeq (dAsg (dCallN (fdN 2 ff_law_fresh) (dCons (dVar 1) (dCons (dVar 8) dNil))) (dName 15))
  (dSeq (dAsg (dOp (addD false) (dOp (addD false) (dSl false (dFld c.P "words" (dVar 11)) dNoPart (dPart (dVar 14))) (dTup (dCons (dVar 15) dNil))) (dSl false (dFld c.P "words" (dVar 11)) (dPart (dOp ixD (dCallN (fdN 1 ff_law_ends) (dCons (dFld c.P "words" (dVar 11)) dNil)) (dVar 14))) dNoPart)) (dName 16))
  (dSeq (dAsg (dCallN (fdN 3 (ff_put_in c)) (dCons (dCallN (fdN 3 (ff_put_in c)) (dCons (dVar 12) (dCons (dVar 9) (dCons (dMake c.Program (fdN 2 (ff_Program_init c)) [] false (dCons (dVar 16) dNil)) dNil)))) (dCons (dVar 15) (dCons (dCallN (fdN 2 (ff_part c)) (dCons (dVar 11) (dCons (dVar 14) dNil))) dNil)))) (dName 13))
  (dIfS (dTest (dEqO c.eqProgram (fdN 2 (ff_Program_eq c)) true (dVar 13) (dVar 5))) (dRet false (dC (.bl false))) dNext)))))))))))))))))))
  (dRet false (dC (.bl true)))))
theorem sm_law {c : Cs} : SimS 1 (fb_law c) (td_law c) :=
  (s_seq (s_asg (s_call (r_o r_nil)) (by decide))
  (s_seq (s_for (i_range1 (a_cons (s_op addF_ok (o_e (s_c _)) (o_e (s_op divF_ok (o_e (s_callB lenF_ok (l_cons (o_e (s_sl (o_v 0) p_no (p_so (s_c _)))) l_nil))) (o_e (s_c _))))) a_nil)) (g_name 2) (s_seq (s_asg (s_call (r_o (r_e (s_c _) (r_e (s_c _) r_nil)))) (by decide))
  (s_seq (s_asg (s_make (a_cons (s_var 3) a_nil)) (by decide))
  (s_seq (s_asg (s_call (r_o r_nil)) (by decide))
  (s_seq (s_asg (s_call (r_o r_nil)) (by decide))
  (s_seq (s_asg (s_call (r_o r_nil)) (by decide))
  (s_seq (s_ifS (t_test (s_op ordF_ok (o_e (s_callB lenF_ok (l_cons (o_v 7) l_nil))) (o_e (s_c _)))) (s_asg (s_lc (i_range1 (a_cons (s_c _) a_nil)) (g_name 17) t_yes (s_call (r_o (r_o r_nil)))) (by decide)) s_next)
  (s_seq (s_asg (s_opN addFN_ok (o_e (s_lc (i_seq (s_var 3)) (g_name 18) (t_test (s_op eqF_ok (o_v 18) (o_e (s_c _)))) (s_var 18))) (o_e (s_lc (i_seq (s_var 3)) (g_name 18) (t_test (s_op eqF_ok (o_e (s_sl (o_v 18) p_no (p_so (s_c _)))) (o_e (s_c _)))) (s_sl (o_v 18) (p_so (s_c _)) p_no)))) (by decide))
  (s_seq (s_asg (s_call (r_o (r_o r_nil))) (by decide))
  (s_for (i_seq (s_var 7)) (g_name 10) (s_seq (s_asg (s_call (r_o (r_o r_nil))) (by decide))
  (s_seq (s_asg (s_make (a_cons (s_op addF_ok (o_e (s_op addF_ok (o_e (s_sl (o_v 3) p_no (p_so (s_var 10)))) (o_e (s_tup (a_cons (s_var 9) a_nil))))) (o_e (s_sl (o_v 3) (p_so (s_op ixF_ok (o_v 6) (o_v 10))) p_no))) a_nil)) (by decide))
  (s_seq (s_asg (s_call (r_o (r_o (r_o r_nil)))) (by decide))
  (s_seq (s_ifS (t_or (t_not (t_tru (fun _ _ _ h => h) (o_e (s_callB isiOF_ok (l_cons (o_v 13) (l_cons (o_e (s_c _)) l_nil)))))) (t_or (t_test (s_eqO c.heqProgram (s_var 13) (s_var 5))) (t_test (s_op isBF_ok (o_e (s_call (r_o (r_o r_nil)))) (o_e (s_c _)))))) (s_ret (s_c _)) s_next)
  (s_seq (s_asg (s_call (r_o (r_e (s_call (r_e (s_fld c.hP (o_v 11)) r_nil)) r_nil))) (by decide))
  (s_seq (s_asg (s_call (r_o (r_o r_nil))) (by decide))
  (s_seq (s_asg (s_op addF_ok (o_e (s_op addF_ok (o_e (s_sl (o_e (s_fld c.hP (o_v 11))) p_no (p_so (s_var 14)))) (o_e (s_tup (a_cons (s_var 15) a_nil))))) (o_e (s_sl (o_e (s_fld c.hP (o_v 11))) (p_so (s_op ixF_ok (o_e (s_call (r_e (s_fld c.hP (o_v 11)) r_nil))) (o_v 14))) p_no))) (by decide))
  (s_seq (s_asg (s_call (r_e (s_call (r_o (r_o (r_e (s_make (a_cons (s_var 16) a_nil)) r_nil)))) (r_o (r_e (s_call (r_o (r_o r_nil))) r_nil)))) (by decide))
  (s_ifS (t_test (s_eqO c.heqProgram (s_var 13) (s_var 5))) (s_ret (s_c _)) s_next)))))))))))))))))))
  (s_ret (s_c _))))
end Once

/-! PW: words of programs, plainly. -/
namespace Once
open PySem PySem.Spec L2 OD F
/-- names, as rows of letters -/
def okn (n : List Nat) : Prop := 1 ≤ n.length ∧ n.length ≤ 8 ∧ ∀ c ∈ n, 97 ≤ c ∧ c ≤ 122
inductive Pw where
  | gv
  | tk (n : List Nat)
  | us (n : List Nat)
deriving DecidableEq
def Pw.ok : Pw → Prop
  | .gv => True
  | .tk n => okn n
  | .us n => okn n
def Pw.ar : Pw → Nat
  | .gv => 2
  | .tk _ => 1
  | .us _ => 0
def mkS (l : List Nat) : Str := ⟨l.toArray⟩
def pw : Pw → D
  | .gv => .str (mkS [64])
  | .tk n => .str (mkS (47 :: n))
  | .us n => .str (mkS n)
theorem s_at : (Str.ofString "@" : Str) = mkS [64] := by decide +kernel
theorem s_sl : (Str.ofString "/" : Str) = mkS [47] := by decide +kernel
theorem s_a : (Str.ofString "a" : Str) = mkS [97] := by decide +kernel
theorem s_z : (Str.ofString "z" : Str) = mkS [122] := by decide +kernel
theorem s_no : (Str.ofString "" : Str) = mkS [] := by decide +kernel
theorem mkS_inj {a b : List Nat} : mkS a = mkS b ↔ a = b := by
  unfold mkS
  constructor
  · intro h
    have := Str.mk.inj h
    simpa using this
  · rintro rfl; rfl
@[simp] theorem mkS_len (a : List Nat) : (mkS a).length = a.length := by
  unfold mkS Str.length
  simp
@[simp] theorem mkS_cps (a : List Nat) : (mkS a).cps.toList = a := by
  unfold mkS
  simp
@[simp] theorem mkS_app (a b : List Nat) : mkS a ++ mkS b = mkS (a ++ b) := by
  show (⟨a.toArray ++ b.toArray⟩ : Str) = ⟨(a ++ b).toArray⟩
  simp
theorem cutS_mk (a : List Nat) (lo hi : Option Int) : cutS (mkS a) lo hi = mkS (cutL a lo hi) := by
  unfold cutS
  rw [mkS_len, mkS_cps]
  rfl
theorem strL_mk (a : List Nat) : strL (mkS a) = a.map fun c => .str (mkS [c]) := by
  unfold strL
  rw [mkS_cps]
  rfl
theorem cutL_pre {α : Type} (xs : List α) (a : Nat) : cutL xs none (some (a : Int)) = xs.take a := by
  unfold cutL
  rw [HT.sIx_none, show HT.sIx xs.length xs.length (some (a : Int)) = min a xs.length from HT.sIx_nat _ _ a, List.drop_zero, Nat.sub_zero, ← List.take_eq_take_min]
theorem cutL_suf {α : Type} (xs : List α) (a : Nat) : cutL xs (some (a : Int)) none = xs.drop a := by
  unfold cutL
  rw [HT.sIx_none, show HT.sIx xs.length 0 (some (a : Int)) = min a xs.length from HT.sIx_nat _ _ a]
  by_cases h : a ≤ xs.length
  · rw [Nat.min_eq_left h, List.take_of_length_le (by rw [List.length_drop]; omega)]
  · rw [Nat.min_eq_right (by omega), List.drop_eq_nil_of_le (Nat.le_refl _), List.drop_eq_nil_of_le (by omega)]; simp
theorem cutL_mid {α : Type} (xs : List α) (a b : Nat) (h1 : a ≤ b) (h2 : b ≤ xs.length) : cutL xs (some (a : Int)) (some (b : Int)) = (xs.drop a).take (b - a) := by
  unfold cutL
  rw [show HT.sIx xs.length 0 (some (a : Int)) = min a xs.length from HT.sIx_nat _ _ a, show HT.sIx xs.length xs.length (some (b : Int)) = min b xs.length from HT.sIx_nat _ _ b, Nat.min_eq_left h2, Nat.min_eq_left (by omega)]
theorem cutL_1 {α : Type} (xs : List α) : cutL xs none (some 1) = xs.take 1 := cutL_pre xs 1
theorem cutL_r {α : Type} (xs : List α) : cutL xs (some 1) none = xs.drop 1 := cutL_suf xs 1
end Once

/-! PT: programs as trees, plainly. -/
namespace Once
open PySem PySem.Spec L2 OD F
inductive Tr where
  | us (n : List Nat)
  | tk (n : List Nat) (b : Tr)
  | gv (l r : Tr)
def Tr.pre : Tr → List Pw
  | .us n => [.us n]
  | .tk n b => .tk n :: b.pre
  | .gv l r => .gv :: (l.pre ++ r.pre)
def Tr.size : Tr → Nat
  | .us _ => 1
  | .tk _ b => b.size + 1
  | .gv l r => l.size + r.size + 1
theorem Tr.pre_len (t : Tr) : t.pre.length = t.size := by
  induction t with
  | us n => rfl
  | tk n b ih => simp [Tr.pre, Tr.size, ih]
  | gv l r ihl ihr => simp [Tr.pre, Tr.size, ihl, ihr]
theorem Tr.size_pos (t : Tr) : 0 < t.size := by cases t <;> simp [Tr.size]
/-- as many words are asked for as there are -/
def okp : Nat → List Pw → Bool
  | a, [] => a == 0
  | 0, _ :: _ => false
  | a + 1, w :: r => okp (a + w.ar) r
theorem okp_pre (t : Tr) : ∀ (a : Nat) (r : List Pw), okp (a + 1) (t.pre ++ r) = okp a r := by
  induction t with
  | us n => intro a r; simp [Tr.pre, okp, Pw.ar]
  | tk n b ih => intro a r; simp [Tr.pre, okp, Pw.ar, ih]
  | gv l r ihl ihr =>
    intro a q
    show okp (a + 1) (.gv :: (l.pre ++ r.pre) ++ q) = _
    rw [List.cons_append, List.append_assoc]
    show okp (a + 2) (l.pre ++ (r.pre ++ q)) = _
    rw [ihl, ihr]
theorem okp_tree (t : Tr) : okp 1 t.pre = true := by
  have := okp_pre t 0 []
  rw [List.append_nil] at this
  rw [this]
  rfl
/-- the ends of a tree's words, that stands at p -/
def Tr.ends : Nat → Tr → List Nat
  | p, .us _ => [p + 1]
  | p, .tk n b => (p + (b.size + 1)) :: b.ends (p + 1)
  | p, .gv l r => (p + (l.size + r.size + 1)) :: (l.ends (p + 1) ++ r.ends (p + 1 + l.size))
theorem Tr.ends_len (t : Tr) : ∀ p, (t.ends p).length = t.size := by
  induction t with
  | us n => intro p; rfl
  | tk n b ih => intro p; simp [Tr.ends, Tr.size, ih]
  | gv l r ihl ihr => intro p; simp [Tr.ends, Tr.size, ihl, ihr]
theorem Tr.ends_add (t : Tr) : ∀ p d, t.ends (p + d) = (t.ends p).map (· + d) := by
  induction t with
  | us n => intro p d; simp [Tr.ends]; omega
  | tk n b ih =>
    intro p d
    simp only [Tr.ends, List.map_cons]
    rw [show p + d + 1 = p + 1 + d by omega, ih]
    congr 1
    omega
  | gv l r ihl ihr =>
    intro p d
    simp only [Tr.ends, List.map_cons, List.map_append]
    rw [show p + d + 1 = p + 1 + d by omega, ihl, show p + 1 + d + l.size = p + 1 + l.size + d by omega, ihr]
    congr 1
    omega
/-- rows of numbers as data -/
def ni (ns : List Nat) : List D := ns.map fun (n : Nat) => D.int (n : Int)
def zr (n : Nat) : List Nat := List.replicate n 0
/-- the loop of the ends: what its body does with one word -/
def EndsBody (ws : List Pw) (B : FS) : Prop := ∀ (p : Nat) (w : Pw) (W P : List Nat) (e : Nat) (fo : List D) (x y z : Option Sv), ws[p]? = some w → P.length = w.ar → (P.reverse.getLast?.getD (p + 1) = e) → p < fo.length → fo.length < 1000000 → (W ++ P).length < 1000000 → (x = none ∨ ∃ d, x = some (.im d)) → (y = none ∨ ∃ d, y = some (.im d)) → 
  ∃ x' y', (x' = none ∨ ∃ d, x' = some (.im d)) ∧ (y' = none ∨ ∃ d, y' = some (.im d)) ∧
  B [some (.im (.tup (ws.map pw))), some (.lst fo), some (.lst (ni (W ++ P))), some (.im (.int (p : Int))), x, y] = .nx [some (.im (.tup (ws.map pw))), some (.lst (fo.set p (.int (e : Int)))), some (.lst (ni (W ++ [e]))), some (.im (.int (p : Int))), x', y']
end Once

/-! FP2: words. -/
namespace Once
open PySem PySem.Spec L2 OD F
theorem pw_str (w : Pw) : ∃ x, pw w = .str x := by cases w <;> exact ⟨_, rfl⟩
theorem okn_at {n : List Nat} (h : okn n) : n ≠ [64] := by
  rintro rfl
  have := h.2.2 64 (by simp)
  omega
theorem is_give_eq {w : Pw} (h : w.ok) : ff_is_give [.im (pw w)] = .ok (.im (.bl (decide (w = .gv)))) [.im (pw w)] := by
  cases w with
  | gv => simp [ff_is_give, fDef_eq, fb_is_give, late, pw, s_at]
  | tk n => simp [ff_is_give, fDef_eq, fb_is_give, late, pw, s_at, mkS_inj]
  | us n => simp [ff_is_give, fDef_eq, fb_is_give, late, pw, s_at, mkS_inj, okn_at h]
theorem is_take_eq {w : Pw} (h : w.ok) : ff_is_take [.im (pw w)] = .ok (.im (.bl (decide (w.ar = 1)))) [.im (pw w)] := by
  cases w with
  | gv => simp [ff_is_take, fDef_eq, fb_is_take, late, pw, s_sl, cutS_mk, cutL_1, Pw.ar, mkS_inj]
  | tk n =>
    have : n.length + 1 ≤ 16777216 := by have := h.2.1; omega
    simp [ff_is_take, fDef_eq, fb_is_take, late, pw, s_sl, cutS_mk, cutL_1, Pw.ar, mkS_inj, this]
  | us n =>
    have : n.length ≤ 16777216 := by have := h.2.1; omega
    have h1 : n.take 1 ≠ [47] := by
      intro e
      cases n with
      | nil => cases e
      | cons c r =>
        have := h.2.2 c (by simp)
        simp at e
        omega
    simp [ff_is_take, fDef_eq, fb_is_take, late, pw, s_sl, cutS_mk, cutL_1, Pw.ar, mkS_inj, this, h1]
theorem name_of_eq {w : Pw} (h : w.ok) : ff_name_of [.im (pw w)] = .ok (.im (pw (match w with | .tk n => .us n | w => w))) [.im (pw w)] := by
  cases w with
  | gv =>
    have h1 : ff_is_take [.im (pw .gv)] = _ := is_take_eq (w := .gv) trivial
    simp [ff_name_of, fDef_eq, fb_name_of, late, h1, Pw.ar]
  | tk n =>
    have h1 : ff_is_take [.im (pw (.tk n))] = _ := is_take_eq (w := .tk n) h
    have : n.length + 1 ≤ 16777216 := by have := h.2.1; omega
    simp [ff_name_of, fDef_eq, fb_name_of, late, h1, Pw.ar]
    simp [pw, cutS_mk, cutL_r, this]
  | us n =>
    have h1 : ff_is_take [.im (pw (.us n))] = _ := is_take_eq (w := .us n) h
    simp [ff_name_of, fDef_eq, fb_name_of, late, h1, Pw.ar]
theorem asked_by_eq {w : Pw} (h : w.ok) : ff_asked_by [.im (pw w)] = .ok (.im (.int w.ar)) [.im (pw w)] := by
  cases w with
  | gv => simp [ff_asked_by, fDef_eq, fb_asked_by, late, is_give_eq h, is_take_eq h, Pw.ar]
  | tk n => simp [ff_asked_by, fDef_eq, fb_asked_by, late, is_give_eq h, is_take_eq h, Pw.ar]
  | us n => simp [ff_asked_by, fDef_eq, fb_asked_by, late, is_give_eq h, is_take_eq h, Pw.ar]
theorem bls_t {α : Type} (p : α → Bool) : ∀ n : List α, blsF (n.map fun c => D.bl (p c)) = some (n.map p) := by
  intro n
  induction n with
  | nil => rfl
  | cons c r ih => simp [blsF, ih]
def lo (c : Nat) : Bool := decide (97 ≤ c) && decide (c ≤ 122)
def isn (n : List Nat) : Bool := decide (1 ≤ n.length) && (decide (n.length ≤ 8) && n.all lo)
theorem isn_ok {n : List Nat} : isn n = true ↔ okn n := by
  unfold isn okn lo
  simp
theorem is_name_gen {n : List Nat} (hn : n.length ≤ 1000) : ff_is_name [.im (.str (mkS n))] = .ok (.im (.bl (isn n))) [.im (.str (mkS n))] := by
  have loop : ∀ (r : List Nat) (acc : List D) (x : Option Sv), acc.length + r.length ≤ 1000 → (x = none ∨ ∃ d, x = some (.im d)) → ∃ x', (x' = none ∨ ∃ d, x' = some (.im d)) ∧
      lcL [1] (gName 1) tYes (fChain leF leF (oE (fC (.str "a"))) (oV 1) (oE (fC (.str "z")))) (r.map fun c => D.str (mkS [c])) [some (.im (.str (mkS n))), x] acc = .ok (acc ++ r.map fun c => .bl (lo c)) [some (.im (.str (mkS n))), x'] := by
    intro r
    induction r with
    | nil => intro acc x _ hx; exact ⟨x, hx, by simp [lcL]⟩
    | cons c r ih =>
      intro acc x hl hx
      rw [List.length_cons] at hl
      obtain ⟨x', hx', e⟩ := ih (acc ++ [.bl (lo c)]) (some (.im (.str (mkS [c])))) (by simp; omega) (.inr ⟨_, rfl⟩)
      refine ⟨x', hx', ?_⟩
      have hk : acc.length < 16777216 := by omega
      have l1 : ([c] < [97]) ↔ c < 97 := by simp [List.cons_lt_cons_iff]
      have l2 : ([122] < [c]) ↔ 122 < c := by simp [List.cons_lt_cons_iff]
      unfold lcL
      by_cases h97 : c < 97
      · have : lo c = false := by unfold lo; simp; omega
        simp [late, s_a, s_z, l1, l2, h97, hk, this] at e ⊢
        exact e
      · by_cases h122 : 122 < c
        · have : lo c = false := by unfold lo; simp; omega
          simp [late, s_a, s_z, l1, l2, h97, h122, hk, this] at e ⊢
          exact e
        · have : lo c = true := by unfold lo; simp; omega
          simp [late, s_a, s_z, l1, l2, h97, h122, hk, this] at e ⊢
          exact e
  obtain ⟨x', hx', e⟩ := loop n [] none (by simpa using hn) (.inl rfl)
  have hz : n.length ≤ 16777216 := by omega
  by_cases h8 : 1 ≤ n.length
  · have i8 : (1 : Int) ≤ n.length := by omega
    by_cases h9 : n.length ≤ 8
    · have i9 : (n.length : Int) ≤ 8 := by omega
      simp [ff_is_name, fDef_eq, fb_is_name, late, hz, i8, i9, strL_mk, e, bls_t, isn, h8, h9]
    · have i9 : ¬ (n.length : Int) ≤ 8 := by omega
      simp [ff_is_name, fDef_eq, fb_is_name, late, hz, i8, i9, strL_mk, e, bls_t, isn, h8, h9]
  · have i8 : ¬ (1 : Int) ≤ n.length := by omega
    simp [ff_is_name, fDef_eq, fb_is_name, late, hz, i8, strL_mk, e, bls_t, isn, h8]
theorem is_name_eq {n : List Nat} (h : okn n) : ff_is_name [.im (.str (mkS n))] = .ok (.im (.bl true)) [.im (.str (mkS n))] := by
  rw [is_name_gen (by have := h.2.1; omega), isn_ok.mpr h]
theorem is_word_eq {w : Pw} (h : w.ok) : ff_is_word [.im (pw w)] = .ok (.im (.bl true)) [.im (pw w)] := by
  cases w with
  | gv => simp [ff_is_word, fDef_eq, fb_is_word, late, pw, s_at]
  | tk n =>
    have h1 := is_name_eq (n := n) h
    have : n.length + 1 ≤ 16777216 := by have := h.2.1; omega
    have h2 : ff_is_name [.im (.str (mkS (47 :: n)))] = .ok (.im (.bl false)) [.im (.str (mkS (47 :: n)))] := by
      rw [is_name_gen (by have := h.2.1; simp; omega)]
      simp [isn, lo]
    simp [ff_is_word, fDef_eq, fb_is_word, late, pw, s_at, s_sl, mkS_inj, cutS_mk, cutL_1, cutL_r, h1, h2, this]
  | us n =>
    have h1 := is_name_eq (n := n) h
    simp [ff_is_word, fDef_eq, fb_is_word, late, pw, s_at, s_sl, mkS_inj, cutS_mk, cutL_1, cutL_r, h1, okn_at h]
end Once

/-! FP3: the ends of words. -/
namespace Once
open PySem PySem.Spec L2 OD F
def pws (ws : List Pw) : D := .tup (ws.map pw)
/-- what one turn does -/
structure EB (ws : List Pw) (B : FS) : Prop where
  us : ∀ {p : Nat} {n : List Nat} {W fo : List D} {x y : Option Sv}, ws[p]? = some (.us n) → okn n → p < fo.length → W.length < 10000 → ∃ x' y', B [some (.im (pws ws)), some (.lst fo), some (.lst W), some (.im (.int p)), x, y] = .nx [some (.im (pws ws)), some (.lst (fo.set p (.int (p + 1)))), some (.lst (W ++ [.int (p + 1)])), some (.im (.int p)), x', y']
  tk : ∀ {p : Nat} {n : List Nat} {W fo : List D} {e : D} {x y : Option Sv}, ws[p]? = some (.tk n) → okn n → p < fo.length → W.length < 10000 → ∃ x' y', B [some (.im (pws ws)), some (.lst fo), some (.lst (W ++ [e])), some (.im (.int p)), x, y] = .nx [some (.im (pws ws)), some (.lst (fo.set p e)), some (.lst (W ++ [e])), some (.im (.int p)), x', y']
  gv : ∀ {p : Nat} {W fo : List D} {e e2 : D} {x y : Option Sv}, ws[p]? = some .gv → p < fo.length → W.length < 10000 → ∃ x' y', B [some (.im (pws ws)), some (.lst fo), some (.lst (W ++ [e] ++ [e2])), some (.im (.int p)), x, y] = .nx [some (.im (pws ws)), some (.lst (fo.set p e)), some (.lst (W ++ [e])), some (.im (.int p)), x', y']
theorem pw_ix {ws : List Pw} {p : Nat} {w : Pw} (h : ws[p]? = some w) : atI (ws.map pw) (p : Int) = some (pw w) := atI_nat (by rw [List.getElem?_map, h]; rfl)
theorem rg_0 : rgL 0 1 0 = [] := rfl
theorem r2 : List.range 2 = [0, 1] := rfl
theorem raw_ends_EB (ws : List Pw) : EB ws fb_raw_ends_2 := by
  constructor
  · intro p n W fo x y h hn hp hW
    have h1 := pw_ix h
    have h2 : ff_asked_by [.im (pw (.us n))] = _ := asked_by_eq (w := .us n) hn
    have h3 : ixN fo.length (p : Int) = some p := ixN_nat hp
    have h4 : W.length < 16777216 := by omega
    refine ⟨some (.im (.int (p + 1))), y, ?_⟩
    simp [fb_raw_ends_2, late, pws, h1, h2, h3, h4, Pw.ar, rg_0]
  · intro p n W fo e x y h hn hp hW
    have h1 := pw_ix h
    have h2 : ff_asked_by [.im (pw (.tk n))] = _ := asked_by_eq (w := .tk n) hn
    have h3 : ixN fo.length (p : Int) = some p := ixN_nat hp
    have h4 : W.length < 16777216 := by omega
    refine ⟨some (.im e), some (.im (.int 0)), ?_⟩
    simp [fb_raw_ends_2, fb_raw_ends_1, forL, r2, late, pws, h1, h2, h3, h4, Pw.ar]
  · intro p W fo e e2 x y h hp hW
    have h1 := pw_ix h
    have h2 : ff_asked_by [.im (pw .gv)] = _ := asked_by_eq (w := .gv) trivial
    have h3 : ixN fo.length (p : Int) = some p := ixN_nat hp
    have h4 : W.length < 16777216 := by omega
    refine ⟨some (.im e), some (.im (.int 1)), ?_⟩
    simp [fb_raw_ends_2, fb_raw_ends_1, forL, r2, late, pws, h1, h2, h3, h4, Pw.ar]
theorem law_ends_EB (ws : List Pw) : EB ws fb_law_ends_2 := by
  constructor
  · intro p n W fo x y h hn hp hW
    have h1 := pw_ix h
    have h3 : ixN fo.length (p : Int) = some p := ixN_nat hp
    have h4 : W.length < 16777216 := by omega
    have h5 : n.length ≤ 16777216 := by have := hn.2.1; omega
    have h6 : n.take 1 ≠ [47] := by
      intro e
      cases n with
      | nil => cases e
      | cons c r =>
        have := hn.2.2 c (by simp)
        simp at e
        omega
    refine ⟨some (.im (.int (p + 1))), y, ?_⟩
    simp [fb_law_ends_2, late, pws, h1, h3, h4, rg_0, pw, s_at, s_sl, mkS_inj, okn_at hn, cutS_mk, cutL_1, h5, h6]
  · intro p n W fo e x y h hn hp hW
    have h1 := pw_ix h
    have h3 : ixN fo.length (p : Int) = some p := ixN_nat hp
    have h4 : W.length < 16777216 := by omega
    have h5 : n.length + 1 ≤ 16777216 := by have := hn.2.1; omega
    refine ⟨some (.im e), some (.im (.int 0)), ?_⟩
    simp [fb_law_ends_2, fb_law_ends_1, forL, r2, late, pws, h1, h3, h4, rg_0, pw, s_at, s_sl, mkS_inj, cutS_mk, cutL_1, h5]
  · intro p W fo e e2 x y h hp hW
    have h1 := pw_ix h
    have h3 : ixN fo.length (p : Int) = some p := ixN_nat hp
    have h4 : W.length < 16777216 := by omega
    refine ⟨some (.im e), some (.im (.int 1)), ?_⟩
    simp [fb_law_ends_2, fb_law_ends_1, forL, r2, late, pws, h1, h3, h4, rg_0, pw, s_at, s_sl, mkS_inj]
end Once

/-! FP4: the ends of a tree's words. -/
namespace Once
open PySem PySem.Spec L2 OD F
/-- p + n - 1, .., p -/
def dnL (p : Nat) : Nat → List D
  | 0 => []
  | n + 1 => .int ((p + n : Nat) : Int) :: dnL p n
theorem dnL_add (p a : Nat) : ∀ b, dnL p (a + b) = dnL (p + a) b ++ dnL p a := by
  intro b
  induction b with
  | zero => rfl
  | succ b ih =>
    show D.int ((p + (a + b) : Nat) : Int) :: dnL p (a + b) = .int ((p + a + b : Nat) : Int) :: _
    rw [ih, Nat.add_assoc]
    rfl
theorem rg_dn (n : Nat) : rgL ((n : Int) - 1) (-1) n = dnL 0 n := by
  have h : ∀ k m : Nat, m + k = n → (List.range' m k).map (fun (i : Nat) => D.int ((n : Int) - 1 + (i : Int) * (-1))) = dnL 0 k := by
    intro k
    induction k with
    | zero => intro m _; rfl
    | succ k ih =>
      intro m hm
      rw [List.range'_succ, List.map_cons, ih (m + 1) (by omega)]
      show _ = D.int ((0 + k : Nat) : Int) :: dnL 0 k
      congr 2
      omega
  unfold rgL
  rw [List.range_eq_range', h n 0 (by omega)]
def Tr.ok : Tr → Prop
  | .us n => okn n
  | .tk n b => okn n ∧ b.ok
  | .gv l r => l.ok ∧ r.ok
theorem set_mid {α : Type} {A C : List α} {x y : α} {p : Nat} (h : A.length = p) : (A ++ x :: C).set p y = A ++ y :: C := by
  subst h
  induction A with
  | nil => rfl
  | cons a A ih => simp
theorem ends_tree {ws : List Pw} {B : FS} (hB : EB ws B) (t : Tr) : ∀ (p : Nat) (q : List Pw) (xs W A Z C : List D) (z x y : Option Sv), ws.drop p = t.pre ++ q → t.ok → A.length = p → Z.length = t.size → W.length + t.size < 10000 →
    ∃ z' x' y', forL (gName 3) B (dnL p t.size ++ xs) [some (.im (pws ws)), some (.lst (A ++ Z ++ C)), some (.lst W), z, x, y] = forL (gName 3) B xs [some (.im (pws ws)), some (.lst (A ++ ni (t.ends p) ++ C)), some (.lst (W ++ [.int ((p + t.size : Nat) : Int)])), z', x', y'] := by
  induction t with
  | us n =>
    intro p q xs W A Z C z x y hw ho hA hZ hW
    have h0 : ws[p]? = some (.us n) := by
      have := congrArg (·[0]?) hw
      simpa [Tr.pre] using this
    match Z, hZ with
    | [d], _ =>
      obtain ⟨x', y', e⟩ := hB.us (W := W) (fo := A ++ [d] ++ C) (x := x) (y := y) h0 ho (by simp; omega) (by simp only [Tr.size] at hW; omega)
      refine ⟨some (.im (.int (p : Nat))), x', y', ?_⟩
      show forL (gName 3) B (.int ((p + 0 : Nat) : Int) :: xs) _ = _
      rw [forL_step (s1 := [some (.im (pws ws)), some (.lst (A ++ [d] ++ C)), some (.lst W), some (.im (.int (p : Nat))), x, y]) (by simp) e]
      congr 1
      have : (A ++ [d] ++ C).set p (.int (p + 1)) = A ++ ni ((Tr.us n).ends p) ++ C := by
        rw [List.append_assoc, List.singleton_append, set_mid hA]
        simp [Tr.ends, ni]
      rw [this]
      simp [Tr.size]
  | tk n b ih =>
    intro p q xs W A Z C z x y hw ho hA hZ hW
    have h0 : ws[p]? = some (.tk n) := by
      have := congrArg (·[0]?) hw
      simpa [Tr.pre] using this
    have hw' : ws.drop (p + 1) = b.pre ++ q := by
      have := congrArg (·.drop 1) hw
      simpa [Tr.pre] using this
    match Z, hZ with
    | d :: Z', hZ =>
      simp only [Tr.size] at hW
      have hZ' : Z'.length = b.size := by simpa [Tr.size] using hZ
      obtain ⟨z1, x1, y1, e1⟩ := ih (p + 1) q (.int (p : Nat) :: xs) W (A ++ [d]) Z' C z x y hw' ho.2 (by simp [hA]) hZ' (by omega)
      obtain ⟨x', y', e2⟩ := hB.tk (W := W) (e := .int ((p + 1 + b.size : Nat) : Int)) (fo := A ++ [d] ++ ni (b.ends (p + 1)) ++ C) (x := x1) (y := y1) h0 ho.1 (by simp; omega) (by omega)
      refine ⟨some (.im (.int (p : Nat))), x', y', ?_⟩
      have hd : dnL p (b.size + 1) = dnL (p + 1) b.size ++ [.int (p : Nat)] := by
        rw [Nat.add_comm, dnL_add]
        rfl
      show forL (gName 3) B (dnL p (b.size + 1) ++ xs) _ = _
      rw [hd, List.append_assoc, List.singleton_append, show A ++ d :: Z' ++ C = A ++ [d] ++ Z' ++ C by simp, e1]
      rw [forL_step (s1 := [some (.im (pws ws)), some (.lst (A ++ [d] ++ ni (b.ends (p + 1)) ++ C)), some (.lst (W ++ [.int ((p + 1 + b.size : Nat) : Int)])), some (.im (.int (p : Nat))), x1, y1]) (by simp) e2]
      congr 1
      have : (A ++ [d] ++ ni (b.ends (p + 1)) ++ C).set p (.int ((p + 1 + b.size : Nat) : Int)) = A ++ ni ((Tr.tk n b).ends p) ++ C := by
        rw [show A ++ [d] ++ ni (b.ends (p + 1)) ++ C = A ++ d :: (ni (b.ends (p + 1)) ++ C) by simp, set_mid hA]
        simp [Tr.ends, ni]
        omega
      rw [this]
      simp [Tr.size]
      omega
  | gv l r ihl ihr =>
    intro p q xs W A Z C z x y hw ho hA hZ hW
    have h0 : ws[p]? = some .gv := by
      have := congrArg (·[0]?) hw
      simpa [Tr.pre] using this
    have hwl : ws.drop (p + 1) = l.pre ++ (r.pre ++ q) := by
      have := congrArg (·.drop 1) hw
      simpa [Tr.pre] using this
    have hwr : ws.drop (p + 1 + l.size) = r.pre ++ q := by
      have := congrArg (·.drop l.size) hwl
      simp only [List.drop_drop] at this
      rw [this, List.drop_append, l.pre_len]
      simp [List.drop_of_length_le, l.pre_len]
    match Z, hZ with
    | d :: Z', hZ =>
      simp only [Tr.size] at hW
      have hZ' : Z'.length = l.size + r.size := by simpa [Tr.size] using hZ
      obtain ⟨ZL, ZR, rfl, hL, hR⟩ : ∃ ZL ZR, Z' = ZL ++ ZR ∧ ZL.length = l.size ∧ ZR.length = r.size := ⟨Z'.take l.size, Z'.drop l.size, by simp, by simp; omega, by simp; omega⟩
      obtain ⟨z1, x1, y1, e1⟩ := ihr (p + 1 + l.size) q (dnL (p + 1) l.size ++ (.int (p : Nat) :: xs)) W (A ++ [d] ++ ZL) ZR C z x y hwr ho.2 (by simp; omega) hR (by omega)
      obtain ⟨z2, x2, y2, e2⟩ := ihl (p + 1) (r.pre ++ q) (.int (p : Nat) :: xs) (W ++ [.int ((p + 1 + l.size + r.size : Nat) : Int)]) (A ++ [d]) ZL (ni (r.ends (p + 1 + l.size)) ++ C) z1 x1 y1 hwl ho.1 (by simp; omega) hL (by simp; omega)
      obtain ⟨x', y', e3⟩ := hB.gv (W := W) (e := .int ((p + 1 + l.size + r.size : Nat) : Int)) (e2 := .int ((p + 1 + l.size : Nat) : Int)) (fo := A ++ [d] ++ ni (l.ends (p + 1)) ++ (ni (r.ends (p + 1 + l.size)) ++ C)) (x := x2) (y := y2) h0 (by simp; omega) (by omega)
      refine ⟨some (.im (.int (p : Nat))), x', y', ?_⟩
      have hd : dnL p (l.size + r.size + 1) = dnL (p + 1 + l.size) r.size ++ (dnL (p + 1) l.size ++ [.int (p : Nat)]) := by
        rw [show l.size + r.size + 1 = 1 + l.size + r.size by omega, dnL_add, dnL_add, ← Nat.add_assoc]
        rfl
      show forL (gName 3) B (dnL p (l.size + r.size + 1) ++ xs) _ = _
      rw [hd, List.append_assoc, List.append_assoc, List.singleton_append, show A ++ d :: (ZL ++ ZR) ++ C = A ++ [d] ++ ZL ++ ZR ++ C by simp, e1]
      rw [show A ++ [d] ++ ZL ++ ni (r.ends (p + 1 + l.size)) ++ C = A ++ [d] ++ ZL ++ (ni (r.ends (p + 1 + l.size)) ++ C) by simp, e2]
      rw [forL_step (s1 := [some (.im (pws ws)), some (.lst (A ++ [d] ++ ni (l.ends (p + 1)) ++ (ni (r.ends (p + 1 + l.size)) ++ C))), some (.lst (W ++ [.int ((p + 1 + l.size + r.size : Nat) : Int)] ++ [.int ((p + 1 + l.size : Nat) : Int)])), some (.im (.int (p : Nat))), x2, y2]) (by simp) e3]
      congr 1
      have : (A ++ [d] ++ ni (l.ends (p + 1)) ++ (ni (r.ends (p + 1 + l.size)) ++ C)).set p (.int ((p + 1 + l.size + r.size : Nat) : Int)) = A ++ ni ((Tr.gv l r).ends p) ++ C := by
        rw [show A ++ [d] ++ ni (l.ends (p + 1)) ++ (ni (r.ends (p + 1 + l.size)) ++ C) = A ++ d :: (ni (l.ends (p + 1)) ++ (ni (r.ends (p + 1 + l.size)) ++ C)) by simp, set_mid hA]
        simp [Tr.ends, ni]
        omega
      rw [this]
      simp [Tr.size]
      omega
end Once

/-! FP5: raw_ends, _law_ends, wrong_end. -/
namespace Once
open PySem PySem.Spec L2 OD F
theorem ends_all {B : FS} {t : Tr} (hB : EB t.pre B) (ho : t.ok) (hs : t.size < 9000) : ∃ z x y, forL (gName 3) B (rgL ((t.size : Int) - 1) (-1) t.size) [some (.im (pws t.pre)), some (.lst (List.replicate t.size (.int 0))), some (.lst []), none, none, none] = .nx [some (.im (pws t.pre)), some (.lst (ni (t.ends 0))), some (.lst [.int (t.size : Nat)]), z, x, y] := by
  obtain ⟨z, x, y, e⟩ := ends_tree hB t 0 [] [] [] [] (List.replicate t.size (.int 0)) [] none none none (by simp) ho rfl (by simp) (by simp; omega)
  refine ⟨z, x, y, ?_⟩
  rw [rg_dn]
  simpa using e
theorem raw_ends_eq {t : Tr} (ho : t.ok) (hs : t.size < 9000) : ff_raw_ends [.im (pws t.pre)] = .ok (.im (.tup (ni (t.ends 0)))) [.im (pws t.pre)] := by
  obtain ⟨z, x, y, e⟩ := ends_all (raw_ends_EB t.pre) ho hs
  have h1 : (t.pre.map pw).length = t.size := by rw [List.length_map, t.pre_len]
  have h3 : (t.ends 0).length ≤ 16777216 := by rw [t.ends_len]; omega
  have h4 : t.size ≤ 16777216 := by omega
  have hzi : (t.size : Int) < 9223372036854775808 := by omega
  have hz2 : (t.size : Int) - 1 < 4611686018427387904 := by omega
  have hz3 : -4611686018427387904 ≤ (t.size : Int) - 1 := by omega
  have hz4 : -9223372036854775808 ≤ (t.size : Int) := by omega
  unfold pws at e ⊢
  simp only [rgL] at e
  simp [ff_raw_ends, fDef_eq, fb_raw_ends, late, t.pre_len, h3, h4, hzi, hz2, hz3, hz4] at e ⊢
  simp [e]
theorem law_ends_eq {t : Tr} (ho : t.ok) (hs : t.size < 9000) : ff_law_ends [.im (pws t.pre)] = .ok (.im (.tup (ni (t.ends 0)))) [.im (pws t.pre)] := by
  obtain ⟨z, x, y, e⟩ := ends_all (law_ends_EB t.pre) ho hs
  have h1 : (t.pre.map pw).length = t.size := by rw [List.length_map, t.pre_len]
  have h3 : (t.ends 0).length ≤ 16777216 := by rw [t.ends_len]; omega
  have h4 : t.size ≤ 16777216 := by omega
  have hzi : (t.size : Int) < 9223372036854775808 := by omega
  have hz2 : (t.size : Int) - 1 < 4611686018427387904 := by omega
  have hz3 : -4611686018427387904 ≤ (t.size : Int) - 1 := by omega
  have hz4 : -9223372036854775808 ≤ (t.size : Int) := by omega
  unfold pws at e ⊢
  simp only [rgL] at e
  simp [ff_law_ends, fDef_eq, fb_law_ends, late, t.pre_len, h3, h4, hzi, hz2, hz3, hz4] at e ⊢
  simp [e]
/-- as many are asked for -/
theorem wrong_end_loop (W : List Pw) : ∀ (r : List Pw) (p a : Nat) (x y : Option Sv), (∀ w ∈ r, w.ok) → okp a r = true → ∃ x' y', forL (gTup 2 (gCons (gName 2) (gCons (gName 3) gNil))) fb_wrong_end_1 (enumP p (r.map pw)) [some (.im (pws W)), some (.im (.int (a : Nat))), x, y] = .nx [some (.im (pws W)), some (.im (.int 0)), x', y'] := by
  intro r
  induction r with
  | nil =>
    intro p a x y _ h
    have : a = 0 := by simpa [okp] using h
    subst this
    exact ⟨x, y, rfl⟩
  | cons w r ih =>
    intro p a x y hr h
    cases a with
    | zero => cases h
    | succ a =>
      have hw := asked_by_eq (w := w) (hr w (by simp))
      obtain ⟨x', y', e⟩ := ih (p + 1) (a + w.ar) (some (.im (.int p))) (some (.im (pw w))) (fun z hz => hr z (by simp [hz])) h
      refine ⟨x', y', ?_⟩
      have h0 : ¬ ((a : Int) + 1 = 0) := by omega
      have h2 : (a : Int) + 1 + ((w.ar : Int) - 1) = ((a + w.ar : Nat) : Int) := by omega
      rw [List.map_cons, enumP_cons, forL_step (s1 := [some (.im (pws W)), some (.im (.int ((a + 1 : Nat) : Int))), some (.im (.int p)), some (.im (pw w))]) (s2 := [some (.im (pws W)), some (.im (.int ((a + w.ar : Nat) : Int))), some (.im (.int p)), some (.im (pw w))]) (by simp) (by simp [fb_wrong_end_1, late, hw, h0, h2]), e]
theorem wrong_end_eq {ws : List Pw} (ho : ∀ w ∈ ws, w.ok) (h : okp 1 ws = true) (hl : ws.length < 9000) : ff_wrong_end [.im (pws ws)] = .ok (.im .non) [.im (pws ws)] := by
  obtain ⟨x, y, e⟩ := wrong_end_loop ws ws 0 1 none none ho h
  have e' := e
  unfold pws at e'
  have h4 : ws.length ≤ 16777216 := by omega
  simp [ff_wrong_end, fDef_eq, fb_wrong_end, late, pws, enumL_P] at e' ⊢
  simp [e']
end Once

/-! FP6: dicts of words; wrong_second. -/
namespace Once
open PySem PySem.Spec L2 OD F
theorem lookD_no {kvs : List (Key × D)} {k : Key} (h : k ∉ kvs.map (·.1)) : lookD kvs k = none := by
  unfold lookD
  rw [List.find?_eq_none.mpr fun kv hm z => h (List.mem_map.mpr ⟨kv, hm, of_decide_eq_true z⟩)]
  rfl
theorem putD_no {kvs : List (Key × D)} {k : Key} {v : D} (h : k ∉ kvs.map (·.1)) : putD kvs k v = kvs ++ [(k, v)] := by
  unfold putD
  rw [if_neg]
  intro z
  obtain ⟨kv, hm, e⟩ := List.any_eq_true.mp z
  exact h (List.mem_map.mpr ⟨kv, hm, of_decide_eq_true e⟩)
theorem lookD_of {kvs : List (Key × D)} {k : Key} {v : D} (hn : (kvs.map (·.1)).Nodup) (h : (k, v) ∈ kvs) : lookD kvs k = some v := by
  unfold lookD
  induction kvs with
  | nil => cases h
  | cons p r ih =>
    obtain ⟨a, b⟩ := p
    rw [List.map_cons, List.nodup_cons] at hn
    rcases List.mem_cons.mp h with e | e
    · cases e
      simp
    · have hk : a ≠ k := fun z => hn.1 (by rw [z]; exact List.mem_map.mpr ⟨_, e, rfl⟩)
      rw [List.find?_cons_of_neg (by simpa using hk)]
      exact ih hn.2 e
/-- a word as a text -/
def ss : Pw → Str
  | .gv => mkS [64]
  | .tk n => mkS (47 :: n)
  | .us n => mkS n
theorem pw_ss (w : Pw) : pw w = .str (ss w) := by cases w <;> rfl
theorem ss_inj {v w : Pw} (hv : v.ok) (hw : w.ok) (h : ss v = ss w) : v = w := by
  have no : ∀ {n m : List Nat}, okn n → n = 47 :: m → False := fun {n m} a e => by
    subst e
    have := a.2.2 47 (by simp)
    omega
  cases v with
  | gv =>
    cases w with
    | gv => rfl
    | tk n => exact absurd (mkS_inj.mp h) (by simp)
    | us n => exact absurd (mkS_inj.mp h).symm (okn_at hw)
  | tk n =>
    cases w with
    | gv => exact absurd (mkS_inj.mp h) (by simp)
    | tk m => rw [List.tail_eq_of_cons_eq (mkS_inj.mp h)]
    | us m => exact (no hw (mkS_inj.mp h).symm).elim
  | us n =>
    cases w with
    | gv => exact absurd (mkS_inj.mp h) (okn_at hv)
    | tk m => exact (no hv (mkS_inj.mp h)).elim
    | us m => rw [mkS_inj.mp h]
/-- the words that give nothing -/
def nog (ws : List Pw) : List Pw := ws.filter fun w => decide (w ≠ .gv)
def seen (ws : List Pw) : List (Key × D) := (nog ws).map fun w => (Sum.inr (ss w), D.bl true)
theorem seen_key {ws : List Pw} {w : Pw} (hok : ∀ v ∈ ws, v.ok) (hw : w.ok) (h : w ∉ nog ws) : (Sum.inr (ss w) : Key) ∉ (seen ws).map (·.1) := by
  intro z
  simp only [seen, List.map_map, List.mem_map, Function.comp] at z
  obtain ⟨v, hv, e⟩ := z
  have : ss v = ss w := by injection e
  have hm : v ∈ ws := (List.mem_filter.mp hv).1
  rw [ss_inj (hok v hm) hw this] at hv
  exact h hv
theorem wrong_second_loop (W : List Pw) : ∀ (r pre : List Pw) (x y : Option Sv), (∀ w ∈ pre ++ r, w.ok) → (nog (pre ++ r)).Nodup → (pre ++ r).length < 9000 →
    ∃ x' y', forL (gTup 2 (gCons (gName 2) (gCons (gName 3) gNil))) fb_wrong_second_1 (enumP pre.length (r.map pw)) [some (.im (pws W)), some (.dic (seen pre)), x, y] = .nx [some (.im (pws W)), some (.dic (seen (pre ++ r))), x', y'] := by
  intro r
  induction r with
  | nil => intro pre x y _ _ _; exact ⟨x, y, by simp⟩
  | cons w r ih =>
    intro pre x y hok hnd hl
    have hw : w.ok := hok w (by simp)
    have hg := is_give_eq hw
    have ea : pre ++ w :: r = pre ++ [w] ++ r := by simp
    obtain ⟨x', y', e⟩ := ih (pre ++ [w]) (some (.im (.int (pre.length : Nat)))) (some (.im (pw w))) (by rw [← ea]; exact hok) (by rw [← ea]; exact hnd) (by rw [← ea]; exact hl)
    refine ⟨x', y', ?_⟩
    rw [List.map_cons, enumP_cons, forL_step (s1 := [some (.im (pws W)), some (.dic (seen pre)), some (.im (.int (pre.length : Nat))), some (.im (pw w))]) (s2 := [some (.im (pws W)), some (.dic (seen (pre ++ [w]))), some (.im (.int (pre.length : Nat))), some (.im (pw w))]) (by simp) ?_, ea]
    · rw [List.length_append, List.length_singleton] at e
      exact e
    · by_cases hgv : w = .gv
      · subst hgv
        simp [fb_wrong_second_1, late, hg, seen, nog]
      · have hn : w ∉ nog pre := by
          intro z
          rw [ea] at hnd
          unfold nog at hnd z
          rw [List.filter_append, List.filter_append] at hnd
          have := (List.nodup_append.mp (List.nodup_append.mp hnd).1).2.2 w z w (by simp [hgv])
          exact this rfl
        have hk := seen_key (fun v hv => hok v (by simp [hv])) hw hn
        have hsz : (seen pre).length < 16777216 := by
          have : (seen pre).length ≤ pre.length := by
            unfold seen nog
            rw [List.length_map]
            exact List.length_filter_le _ _
          simp at hl
          omega
        have hs : seen (pre ++ [w]) = seen pre ++ [(Sum.inr (ss w), .bl true)] := by
          unfold seen nog
          rw [List.filter_append, List.map_append]
          simp [hgv]
        rw [pw_ss] at hg ⊢
        simp [fb_wrong_second_1, late, hg, hgv, inW, keyD, lookD_no hk, putD_no hk, hs, hsz]
theorem wrong_second_eq {ws : List Pw} (hok : ∀ w ∈ ws, w.ok) (hnd : (nog ws).Nodup) (hl : ws.length < 9000) : ff_wrong_second [.im (pws ws)] = .ok (.im .non) [.im (pws ws)] := by
  obtain ⟨x, y, e⟩ := wrong_second_loop ws ws [] none none hok hnd hl
  have h4 : ws.length ≤ 16777216 := by omega
  have e' := e
  unfold pws at e'
  simp [seen, nog] at e'
  simp [ff_wrong_second, fDef_eq, fb_wrong_second, late, pws, enumL_P, e']
end Once

/-! PT2: taken names are used within. -/
namespace Once
open PySem PySem.Spec L2 OD F
def Tr.cl : Tr → Prop
  | .us _ => True
  | .tk n b => Pw.us n ∈ b.pre ∧ b.cl
  | .gv l r => l.cl ∧ r.cl
theorem Tr.cl_at (t : Tr) : t.cl → ∀ (o p : Nat) (n : List Nat), t.pre[p]? = some (.tk n) → ∃ q e, t.pre[q]? = some (.us n) ∧ (t.ends o)[p]? = some e ∧ p < q ∧ o + q < e := by
  induction t with
  | us m => intro _ o p n h; cases p <;> simp [Tr.pre] at h
  | tk m b ih =>
    intro hc o p n h
    cases p with
    | zero =>
      simp [Tr.pre] at h
      subst h
      obtain ⟨j, hj, e⟩ := List.getElem_of_mem hc.1
      rw [b.pre_len] at hj
      refine ⟨j + 1, o + (b.size + 1), ?_, by simp [Tr.ends], by omega, by omega⟩
      simp only [Tr.pre, List.getElem?_cons_succ]
      rw [List.getElem?_eq_getElem (by rw [b.pre_len]; exact hj), e]
    | succ p =>
      obtain ⟨q, e, h1, h2, h3, h4⟩ := ih hc.2 (o + 1) p n (by simpa [Tr.pre] using h)
      exact ⟨q + 1, e, by simpa [Tr.pre] using h1, by simpa [Tr.ends] using h2, by omega, by omega⟩
  | gv l r ihl ihr =>
    intro hc o p n h
    cases p with
    | zero => simp [Tr.pre] at h
    | succ p =>
      simp only [Tr.pre, List.getElem?_cons_succ] at h
      by_cases hp : p < l.size
      · rw [List.getElem?_append_left (by rw [l.pre_len]; exact hp)] at h
        obtain ⟨q, e, h1, h2, h3, h4⟩ := ihl hc.1 (o + 1) p n h
        have hq : q < l.pre.length := (List.getElem?_eq_some_iff.mp h1).1
        refine ⟨q + 1, e, ?_, ?_, by omega, by omega⟩
        · simp only [Tr.pre, List.getElem?_cons_succ]
          rw [List.getElem?_append_left hq, h1]
        · simp only [Tr.ends, List.getElem?_cons_succ]
          rw [List.getElem?_append_left (by rw [l.ends_len]; exact hp), h2]
      · rw [List.getElem?_append_right (by rw [l.pre_len]; omega), l.pre_len] at h
        obtain ⟨q, e, h1, h2, h3, h4⟩ := ihr hc.2 (o + 1 + l.size) (p - l.size) n h
        refine ⟨q + l.size + 1, e, ?_, ?_, by omega, by omega⟩
        · simp only [Tr.pre, List.getElem?_cons_succ]
          rw [List.getElem?_append_right (by rw [l.pre_len]; omega), l.pre_len, Nat.add_sub_cancel, h1]
        · simp only [Tr.ends, List.getElem?_cons_succ]
          rw [List.getElem?_append_right (by rw [l.ends_len]; omega), l.ends_len, h2]
/-- where each name is used -/
def usK : Nat → List Pw → List (Key × D)
  | _, [] => []
  | p, .us n :: r => (Sum.inr (mkS n), .int (p : Nat)) :: usK (p + 1) r
  | p, .gv :: r => usK (p + 1) r
  | p, .tk _ :: r => usK (p + 1) r
theorem usK_mem : ∀ (ws : List Pw) (p q : Nat) (n : List Nat), ws[q]? = some (.us n) → (Sum.inr (mkS n), D.int ((p + q : Nat) : Int)) ∈ usK p ws := by
  intro ws
  induction ws with
  | nil => intro p q n h; simp at h
  | cons w r ih =>
    intro p q n h
    cases q with
    | zero =>
      simp at h
      subst h
      simp [usK]
    | succ q =>
      have := ih (p + 1) q n (by simpa using h)
      rw [show p + 1 + q = p + (q + 1) by omega] at this
      cases w <;> simp only [usK]
      · exact this
      · exact this
      · exact List.mem_cons_of_mem _ this
theorem usK_keys : ∀ (ws : List Pw) (p : Nat), (usK p ws).map (·.1) = (ws.filter fun w => decide (w.ar = 0)).map fun w => (Sum.inr (ss w) : Key) := by
  intro ws
  induction ws with
  | nil => intro p; rfl
  | cons w r ih => intro p; cases w <;> simp [usK, Pw.ar, ss, ih]
theorem usK_nodup {ws : List Pw} (hok : ∀ w ∈ ws, w.ok) (hn : (nog ws).Nodup) (p : Nat) : ((usK p ws).map (·.1)).Nodup := by
  rw [usK_keys]
  have h1 : (ws.filter fun w => decide (w.ar = 0)).Nodup := by
    have e : (ws.filter fun w => decide (w.ar = 0)) = (nog ws).filter fun w => decide (w.ar = 0) := by
      unfold nog
      rw [List.filter_filter]
      congr 1
      funext w
      cases w <;> simp [Pw.ar]
    rw [e]
    exact hn.filter _
  rw [List.nodup_iff_pairwise_ne] at h1 ⊢
  rw [List.pairwise_map]
  refine h1.imp_of_mem fun {a b} ha hb hne z => hne ?_
  exact ss_inj (hok a (List.mem_filter.mp ha).1) (hok b (List.mem_filter.mp hb).1) (by injection z)
end Once

/-! FP7: uses, wrong_take, fault_in. -/
namespace Once
open PySem PySem.Spec L2 OD F
abbrev tg12 : FG := gTup 2 (gCons (gName 1) (gCons (gName 2) gNil))
theorem uses_loop (W : List Pw) : ∀ (r : List Pw) (p : Nat) (acc : List (Key × D)) (x y : Option Sv), (∀ w ∈ r, w.ok) → ((acc ++ usK p r).map (·.1)).Nodup → (x = none ∨ ∃ d, x = some (.im d)) → (y = none ∨ ∃ d, y = some (.im d)) → acc.length + r.length < 10000 →
    ∃ x' y', (x' = none ∨ ∃ d, x' = some (.im d)) ∧ (y' = none ∨ ∃ d, y' = some (.im d)) ∧
      dcL [1, 2] tg12 (fAnd (fNot (fTru (oE (fCall 1 ff_is_give (rO 2 rNil))))) (fNot (fTru (oE (fCall 1 ff_is_take (rO 2 rNil)))))) (fVar 2) (fVar 1) (enumP p (r.map pw)) [some (.im (pws W)), x, y] acc = .ok (acc ++ usK p r) [some (.im (pws W)), x', y'] := by
  intro r
  induction r with
  | nil => intro p acc x y _ _ hx hy _; exact ⟨x, y, hx, hy, by simp [dcL, usK]⟩
  | cons w r ih =>
    intro p acc x y hok hnd hx hy hl
    have hw : w.ok := hok w (by simp)
    have h1 := is_give_eq hw
    have h2 := is_take_eq hw
    rw [List.length_cons] at hl
    have hk : acc.length < 16777216 := by omega
    cases w with
    | gv =>
      obtain ⟨x', y', g1, g2, e⟩ := ih (p + 1) acc (some (.im (.int (p : Nat)))) (some (.im (pw .gv))) (fun z hz => hok z (by simp [hz])) (by simpa [usK] using hnd) (.inr ⟨_, rfl⟩) (.inr ⟨_, rfl⟩) (by omega)
      refine ⟨x', y', g1, g2, ?_⟩
      unfold dcL
      simp [late, h1, h2, Pw.ar, usK] at e ⊢
      exact e
    | tk n =>
      obtain ⟨x', y', g1, g2, e⟩ := ih (p + 1) acc (some (.im (.int (p : Nat)))) (some (.im (pw (.tk n)))) (fun z hz => hok z (by simp [hz])) (by simpa [usK] using hnd) (.inr ⟨_, rfl⟩) (.inr ⟨_, rfl⟩) (by omega)
      refine ⟨x', y', g1, g2, ?_⟩
      unfold dcL
      simp [late, h1, h2, Pw.ar, usK] at e ⊢
      exact e
    | us n =>
      obtain ⟨x', y', g1, g2, e⟩ := ih (p + 1) (acc ++ [(Sum.inr (mkS n), .int (p : Nat))]) (some (.im (.int (p : Nat)))) (some (.im (pw (.us n)))) (fun z hz => hok z (by simp [hz])) (by simpa [usK] using hnd) (.inr ⟨_, rfl⟩) (.inr ⟨_, rfl⟩) (by simp; omega)
      refine ⟨x', y', g1, g2, ?_⟩
      have hno : (Sum.inr (mkS n) : Key) ∉ acc.map (·.1) := by
        intro z
        rw [List.map_append, List.nodup_append] at hnd
        exact hnd.2.2 _ z _ (by simp [usK]) rfl
      have hp := putD_no (v := .int (p : Nat)) hno
      unfold dcL
      simp [late, h1, h2, Pw.ar, usK] at e ⊢
      simp [pw, keyD, hp, hk] at e ⊢
      exact e
abbrev usv (k : List (Key × D)) : Sv := .im (.dic k)
theorem uses_eq {ws : List Pw} (hok : ∀ w ∈ ws, w.ok) (hnd : (nog ws).Nodup) (hl : ws.length < 9000) : ff_uses [.im (pws ws)] = .ok (usv (usK 0 ws)) [.im (pws ws)] := by
  obtain ⟨x, y, g1, g2, e⟩ := uses_loop ws ws 0 [] none none hok (by simpa using usK_nodup hok hnd 0) (.inl rfl) (.inl rfl) (by simp; omega)
  have h4 : ws.length ≤ 16777216 := by omega
  unfold pws at e
  simp at e
  simp [ff_uses, fDef_eq, fb_uses, late, pws, enumL_P, e]
end Once

/-! FP8: wrong_take, fault_in, programs made. -/
namespace Once
open PySem PySem.Spec L2 OD F
theorem Tr.ok_mem (t : Tr) : t.ok → ∀ w ∈ t.pre, w.ok := by
  induction t with
  | us n => intro h w hw; simp [Tr.pre] at hw; subst hw; exact h
  | tk n b ih =>
    intro h w hw
    rcases List.mem_cons.mp hw with e | e
    · subst e; exact h.1
    · exact ih h.2 w e
  | gv l r ihl ihr =>
    intro h w hw
    rcases List.mem_cons.mp hw with e | e
    · subst e; trivial
    · rcases List.mem_append.mp e with e | e
      · exact ihl h.1 w e
      · exact ihr h.2 w e
/-- a right program -/
structure Good (t : Tr) : Prop where
  ok : t.ok
  nd : (nog t.pre).Nodup
  cl : t.cl
theorem Good.ok_mem' {t : Tr} (g : Good t) (w : Pw) (h : w ∈ t.pre) : w.ok := t.ok_mem g.ok w h
theorem ni_at {ns : List Nat} {p e : Nat} (h : ns[p]? = some e) : atI (ni ns) (p : Int) = some (.int (e : Nat)) := atI_nat (by unfold ni; rw [List.getElem?_map, h]; rfl)
theorem wrong_take_loop {t : Tr} (g : Good t) : ∀ (r pre : List Pw) (x y : Option Sv), pre ++ r = t.pre →
    ∃ x' y', forL (gTup 2 (gCons (gName 3) (gCons (gName 4) gNil))) fb_wrong_take_1 (enumP pre.length (r.map pw)) [some (.im (pws t.pre)), some (.im (.tup (ni (t.ends 0)))), some (usv (usK 0 t.pre)), x, y] = .nx [some (.im (pws t.pre)), some (.im (.tup (ni (t.ends 0)))), some (usv (usK 0 t.pre)), x', y'] := by
  intro r
  induction r with
  | nil => intro pre x y _; exact ⟨x, y, by simp⟩
  | cons w r ih =>
    intro pre x y he
    have hw : w.ok := g.ok_mem' w (by rw [← he]; simp)
    have h2 := is_take_eq hw
    obtain ⟨x', y', e⟩ := ih (pre ++ [w]) (some (.im (.int (pre.length : Nat)))) (some (.im (pw w))) (by rw [← he]; simp)
    refine ⟨x', y', ?_⟩
    rw [List.map_cons, enumP_cons, forL_step (s1 := [some (.im (pws t.pre)), some (.im (.tup (ni (t.ends 0)))), some (usv (usK 0 t.pre)), some (.im (.int (pre.length : Nat))), some (.im (pw w))]) (s2 := [some (.im (pws t.pre)), some (.im (.tup (ni (t.ends 0)))), some (usv (usK 0 t.pre)), some (.im (.int (pre.length : Nat))), some (.im (pw w))]) (by simp) ?_]
    · rw [List.length_append, List.length_singleton] at e
      exact e
    · cases w with
      | gv => simp [fb_wrong_take_1, late, h2, Pw.ar]
      | us n => simp [fb_wrong_take_1, late, h2, Pw.ar]
      | tk n =>
        have h3 := name_of_eq hw
        have hp : t.pre[pre.length]? = some (.tk n) := by rw [← he]; simp
        obtain ⟨q, e2, k1, k2, k3, k4⟩ := t.cl_at g.cl 0 pre.length n hp
        have k5 := lookD_of (usK_nodup (fun w hw => g.ok_mem' w hw) g.nd 0) (usK_mem t.pre 0 q n k1)
        have k6 := ni_at k2
        have i1 : (pre.length : Int) < (q : Int) := by omega
        have i2 : (q : Int) < (e2 : Int) := by omega
        rw [Nat.zero_add] at k5
        simp [fb_wrong_take_1, late, h2, h3, Pw.ar]
        simp [pw, keyD, k5, k6, i1, i2]
theorem wrong_take_eq {t : Tr} (g : Good t) (hl : t.size < 9000) : ff_wrong_take [.im (pws t.pre)] = .ok (.im .non) [.im (pws t.pre)] := by
  obtain ⟨x, y, e⟩ := wrong_take_loop g t.pre [] none none rfl
  have h1 := raw_ends_eq g.ok hl
  have h2 := uses_eq (fun w hw => g.ok_mem' w hw) g.nd (by rw [t.pre_len]; exact hl)
  unfold pws at e h1 h2
  simp at e
  simp [ff_wrong_take, fDef_eq, fb_wrong_take, late, pws, enumL_P, h1, h2, e]
theorem fault_in_eq {c : Cs} {t : Tr} (g : Good t) (hl : t.size < 9000) : ff_fault_in c [.im (pws t.pre)] = .ok (.im .non) [.im (pws t.pre)] := by
  have hw : ∀ w ∈ t.pre, w.ok := fun w hw => g.ok_mem' w hw
  have hlen : t.pre.length < 9000 := by rw [t.pre_len]; exact hl
  have h1 := wrong_end_eq hw (okp_tree t) hlen
  have h2 := wrong_second_eq hw g.nd hlen
  have h3 := wrong_take_eq g hl
  have loop : ∀ (r : List Pw) (p : Nat) (x y : Option Sv), (∀ w ∈ r, w.ok) → ∃ x' y', forL (gTup 2 (gCons (gName 2) (gCons (gName 3) gNil))) (fb_fault_in_1 c) (enumP p (r.map pw)) [some (.im (pws t.pre)), none, x, y, none] = .nx [some (.im (pws t.pre)), none, x', y', none] := by
    intro r
    induction r with
    | nil => intro p x y _; exact ⟨x, y, rfl⟩
    | cons w r ih =>
      intro p x y hr
      have hk := is_word_eq (hr w (by simp))
      obtain ⟨x', y', e⟩ := ih (p + 1) (some (.im (.int p))) (some (.im (pw w))) fun z hz => hr z (by simp [hz])
      refine ⟨x', y', ?_⟩
      rw [List.map_cons, enumP_cons, forL_step (s1 := [some (.im (pws t.pre)), none, some (.im (.int p)), some (.im (pw w)), none]) (s2 := [some (.im (pws t.pre)), none, some (.im (.int p)), some (.im (pw w)), none]) (by simp) (by simp [fb_fault_in_1, late, hk]), e]
  obtain ⟨x, y, e⟩ := loop t.pre 0 none none hw
  unfold pws at e h1 h2 h3
  simp [ff_fault_in, fDef_eq, fb_fault_in, fb_fault_in_2, late, pws, enumL_P, e, forFL, h1, h2, h3]
end Once

/-! FP9: programs made; open names, givens, takes. -/
namespace Once
open PySem PySem.Spec L2 OD F
theorem Program_init_eq {c : Cs} {C : Addr} {t : Tr} (hC : c.Pb C = true) (g : Good t) (hl : t.size ≤ 1000) : ff_Program_init c [.ins C [], .im (pws t.pre)] = .ok (.im .non) [.ins C [("words", pws t.pre)], .im (pws t.pre)] := by
  have h1 := fault_in_eq (c := c) g (by omega)
  have h2 := t.size_pos
  have h3 : t.pre.length ≤ 16777216 := by rw [t.pre_len]; omega
  have e1 : ((1 : Int) ≤ t.size) := by omega
  have e2 : ((t.size : Int) ≤ 1000) := by omega
  unfold pws at h1 ⊢
  simp [ff_Program_init, fDef_eq, fb_Program_init, late, h1, hC, putFD, t.pre_len, h3, e1, e2]
theorem RawProgram_init_eq {c : Cs} {C : Addr} {ws : List Pw} (hC : c.Pb C = true) (hl : ws.length < 9000) : ff_RawProgram_init c [.ins C [], .im (pws ws)] = .ok (.im .non) [.ins C [("words", pws ws)], .im (pws ws)] := by
  have h3 : ws.length ≤ 16777216 := by omega
  unfold pws
  simp [ff_RawProgram_init, fDef_eq, fb_RawProgram_init, late, hC, putFD, h3]
def prg (C : Addr) (ws : List Pw) : D := .obj C [("words", pws ws)]
/-- a count of words -/
theorem count_loop {i : Nat} {p : Pw → Bool} {T : FT} (S : Option Sv → Sl) (hS : ∀ x, wipeF (S x) [i] = S none) (hset : ∀ x d, (S x).set i (some (.im d)) = S (some (.im d)))
    (hT : ∀ w : Pw, w.ok → T (S (some (.im (pw w)))) = .ok (p w) (S (some (.im (pw w))))) (hv : ∀ w : Pw, fVar i (S (some (.im (pw w)))) = .ok (.im (pw w)) (S (some (.im (pw w))))) :
    ∀ (r : List Pw) (acc : List D) (x : Option Sv), (∀ w ∈ r, w.ok) → acc.length + r.length < 10000 → ∃ x', (x' = x ∨ ∃ d, x' = some (.im d)) ∧ lcL [i] (gName i) T (fVar i) (r.map pw) (S x) acc = .ok (acc ++ (r.filter p).map pw) (S x') := by
  intro r
  induction r with
  | nil => intro acc x _ _; exact ⟨x, .inl rfl, by simp [lcL]⟩
  | cons w r ih =>
    intro acc x hok hl
    rw [List.length_cons] at hl
    have hk : acc.length < 16777216 := by omega
    have h1 := hT w (hok w (by simp))
    cases hp : p w with
    | true =>
      obtain ⟨x', hx, e⟩ := ih (acc ++ [pw w]) (some (.im (pw w))) (fun z hz => hok z (by simp [hz])) (by simp; omega)
      refine ⟨x', ?_, ?_⟩
      · rcases hx with rfl | hx
        · exact .inr ⟨_, rfl⟩
        · exact .inr hx
      · rw [List.map_cons]
        unfold lcL
        rw [hS, show F.gName i (pw w) (S none) = some (S (some (.im (pw w)))) from congrArg some (hset _ _)]
        dsimp only
        rw [h1, hp, nox_ok, ok_bind, if_pos rfl, hv, nox_ok, ok_bind]
        simp [hk, e, hp]
    | false =>
      obtain ⟨x', hx, e⟩ := ih acc (some (.im (pw w))) (fun z hz => hok z (by simp [hz])) (by omega)
      refine ⟨x', ?_, ?_⟩
      · rcases hx with rfl | hx
        · exact .inr ⟨_, rfl⟩
        · exact .inr hx
      · rw [List.map_cons]
        unfold lcL
        rw [hS, show F.gName i (pw w) (S none) = some (S (some (.im (pw w)))) from congrArg some (hset _ _)]
        dsimp only
        rw [h1, hp, nox_ok, ok_bind]
        simp [e, hp]
end Once

/-! FP10: givens, takes. -/
namespace Once
open PySem PySem.Spec L2 OD F
def cnt (k : Nat) (ws : List Pw) : Nat := (ws.filter fun w => decide (w.ar = k)).length
theorem ar_gv (w : Pw) : decide (w = .gv) = decide (w.ar = 2) := by cases w <;> simp [Pw.ar]
theorem ar_tk (w : Pw) : decide (w.ar = 1) = decide (w.ar = 1) := rfl
end Once

/-! PL: names by their number, plainly. -/
namespace Once
open PySem PySem.Spec L2 OD F
def lt : Nat → Nat → List Nat → List Nat
  | 0, _, f => f
  | k + 1, l, f => if l = 0 then f else lt k ((l - 1) / 26) ((97 + (l - 1) % 26) :: f)
def BB : Nat → Nat
  | 0 => 0
  | k + 1 => 26 * BB k + 26
theorem lt_app : ∀ (k l : Nat) (f : List Nat), lt k l f = lt k l [] ++ f := by
  intro k
  induction k with
  | zero => intro l f; rfl
  | succ k ih =>
    intro l f
    unfold lt
    by_cases h : l = 0
    · rw [if_pos h, if_pos h]; rfl
    · rw [if_neg h, if_neg h, ih, ih _ [_]]
      simp
theorem lt_zero (k : Nat) (f : List Nat) : lt k 0 f = f := by cases k <;> simp [lt]
theorem lt_fuel : ∀ (k l : Nat) (f : List Nat), l ≤ BB k → lt (k + 1) l f = lt k l f := by
  intro k
  induction k with
  | zero =>
    intro l f h
    have : l = 0 := by simpa [BB] using h
    subst this
    rw [lt_zero, lt_zero]
  | succ k ih =>
    intro l f h
    by_cases h0 : l = 0
    · subst h0; rw [lt_zero, lt_zero]
    · have h1 : (l - 1) / 26 ≤ BB k := by
        unfold BB at h
        omega
      show (if l = 0 then f else lt (k + 1) ((l - 1) / 26) ((97 + (l - 1) % 26) :: f)) = if l = 0 then f else lt k ((l - 1) / 26) ((97 + (l - 1) % 26) :: f)
      rw [if_neg h0, if_neg h0, ih _ _ h1]
theorem lt_len : ∀ (k l : Nat) (f : List Nat), (lt k l f).length ≤ k + f.length := by
  intro k
  induction k with
  | zero => intro l f; simp [lt]
  | succ k ih =>
    intro l f
    unfold lt
    split
    · omega
    · have := ih ((l - 1) / 26) ((97 + (l - 1) % 26) :: f)
      simp only [List.length_cons] at this
      omega
theorem lt_chr : ∀ (k l : Nat) (f : List Nat), (∀ c ∈ f, 97 ≤ c ∧ c ≤ 122) → ∀ c ∈ lt k l f, 97 ≤ c ∧ c ≤ 122 := by
  intro k
  induction k with
  | zero => intro l f h; exact h
  | succ k ih =>
    intro l f h
    unfold lt
    split
    · exact h
    · refine ih _ _ fun c hc => ?_
      rcases List.mem_cons.mp hc with rfl | hc
      · omega
      · exact h c hc
def dec (f : List Nat) : Nat := f.foldl (fun a c => a * 26 + (c - 97) + 1) 0
theorem dec_lt : ∀ (k l : Nat), l ≤ BB k → dec (lt k l []) = l := by
  intro k
  induction k with
  | zero =>
    intro l h
    have : l = 0 := by simpa [BB] using h
    subst this
    rfl
  | succ k ih =>
    intro l h
    by_cases h0 : l = 0
    · subst h0; rw [lt_zero]; rfl
    · have h1 : (l - 1) / 26 ≤ BB k := by
        unfold BB at h
        omega
      unfold lt
      rw [if_neg h0, lt_app]
      unfold dec
      rw [List.foldl_append]
      have := ih _ h1
      unfold dec at this
      rw [this]
      simp only [List.foldl_cons, List.foldl_nil]
      omega
theorem BB8 : BB 8 = 217180147158 := by decide
def letters (n : Nat) : List Nat := lt 9 (n + 1) []
theorem letters_ok {n : Nat} (h : n < 217180147158) : okn (letters n) := by
  have hb : n + 1 ≤ BB 8 := by rw [BB8]; omega
  have e : letters n = lt 8 (n + 1) [] := lt_fuel 8 (n + 1) [] hb
  refine ⟨?_, ?_, ?_⟩
  · rw [e]
    have : lt 8 (n + 1) [] = lt 7 (n / 26) [97 + n % 26] := by
      show (if n + 1 = 0 then _ else lt 7 ((n + 1 - 1) / 26) _) = _
      rw [if_neg (by omega), Nat.add_sub_cancel]
    rw [this, lt_app]
    simp
  · rw [e]
    have := lt_len 8 (n + 1) []
    simpa using this
  · exact lt_chr 9 (n + 1) [] (by simp)
theorem letters_inj {m n : Nat} (hm : m < 217180147158) (hn : n < 217180147158) (h : letters m = letters n) : m = n := by
  have h1 : m + 1 ≤ BB 8 := by rw [BB8]; omega
  have h2 : n + 1 ≤ BB 8 := by rw [BB8]; omega
  have e1 : letters m = lt 8 (m + 1) [] := lt_fuel 8 (m + 1) [] h1
  have e2 : letters n = lt 8 (n + 1) [] := lt_fuel 8 (n + 1) [] h2
  rw [e1, e2] at h
  have := congrArg dec h
  rw [dec_lt _ _ h1, dec_lt _ _ h2] at this
  omega
end Once

/-! FP11: names drawn. -/
namespace Once
open PySem PySem.Spec L2 OD F
theorem s_al : (Str.ofString "abcdefghijklmnopqrstuvwxyz" : Str) = mkS (List.range' 97 26) := by decide +kernel
theorem al_at {i : Nat} (h : i < 26) : atI (List.range' 97 26) (i : Int) = some (97 + i) := atI_nat (by rw [List.getElem?_range' h]; simp)
theorem mk1 (c : Nat) : (⟨#[c]⟩ : Str) = mkS [c] := rfl
theorem letters_loop (n : D) : ∀ (k l : Nat) (f : List Nat) (xs : List D) (x : Option Sv), xs.length = k → l < 1000000000000000 → f.length + k < 1000 →
    ∃ l' x', forL (gName 3) fb_law_letters_1 xs [some (.im n), some (.im (.str (mkS f))), some (.im (.int (l : Nat))), x] = .nx [some (.im n), some (.im (.str (mkS (lt k l f)))), some (.im (.int (l' : Nat))), x'] := by
  intro k
  induction k with
  | zero =>
    intro l f xs x hx _ _
    have : xs = [] := List.length_eq_zero_iff.mp hx
    subst this
    exact ⟨l, x, rfl⟩
  | succ k ih =>
    intro l f xs x hx hl hf
    match xs, hx with
    | d :: xs, hx =>
      by_cases h0 : l = 0
      · subst h0
        obtain ⟨l', x', e⟩ := ih 0 f xs (some (.im d)) (by simpa using hx) (by omega) (by omega)
        refine ⟨l', x', ?_⟩
        rw [forL_step (s1 := [some (.im n), some (.im (.str (mkS f))), some (.im (.int ((0 : Nat) : Int))), some (.im d)]) (s2 := [some (.im n), some (.im (.str (mkS f))), some (.im (.int ((0 : Nat) : Int))), some (.im d)]) (by simp) (by simp [fb_law_letters_1, late]), e]
        rw [lt_zero, lt_zero]
      · obtain ⟨l', x', e⟩ := ih ((l - 1) / 26) ((97 + (l - 1) % 26) :: f) xs (some (.im d)) (by simpa using hx) (by omega) (by simp; omega)
        refine ⟨l', x', ?_⟩
        have h1 : (0 : Int) < l := by omega
        have hm : ((l : Int) - 1) % 26 = (((l - 1) % 26 : Nat) : Int) := by omega
        have hd : ((l : Int) - 1) / 26 = (((l - 1) / 26 : Nat) : Int) := by omega
        have ha := al_at (i := (l - 1) % 26) (by omega)
        have hlen : f.length + 1 ≤ 16777216 := by omega
        have hlen' : 1 + f.length ≤ 16777216 := by omega
        have hlog : Nat.log2 26 < 9000 := by decide
        have hp : 0 < l := by omega
        revert e ha hm hd
        rw [show lt (k + 1) l f = lt k ((l - 1) / 26) ((97 + (l - 1) % 26) :: f) by
          show (if l = 0 then f else lt k ((l - 1) / 26) ((97 + (l - 1) % 26) :: f)) = _
          rw [if_neg h0]]
        generalize (l - 1) % 26 = m
        generalize (l - 1) / 26 = q
        intro e hm hd ha
        rw [forL_step (s1 := [some (.im n), some (.im (.str (mkS f))), some (.im (.int (l : Nat))), some (.im d)]) (s2 := [some (.im n), some (.im (.str (mkS ((97 + m) :: f)))), some (.im (.int ((q : Nat) : Int))), some (.im d)]) (by simp) ?_, e]
        simp [fb_law_letters_1, late, hp, s_al, hm, hd, ha, hlen, hlen', hlog, mk1]
theorem law_letters_eq {n : Nat} (hn : n < 100000000000000) : ff_law_letters [.im (.int (n : Nat))] = .ok (.im (.str (mkS (letters n)))) [.im (.int (n : Nat))] := by
  obtain ⟨l', x', e⟩ := letters_loop (.int (n : Nat)) 9 (n + 1) [] (rgL 0 1 9) none (by simp) (by omega) (by simp)
  simp at e
  simp [ff_law_letters, fDef_eq, fb_law_letters, late, s_no, e, letters]
end Once

/-! FDr: draws. -/
namespace Once
open PySem PySem.Spec L2 OD F
/-! a draw -/
theorem log_small {n : Int} (h : n.natAbs < 10 ^ 60) : n.natAbs.log2 < 9000 := by
  by_cases h0 : n.natAbs = 0
  · rw [h0]; decide
  · have h2 : n.natAbs < 2 ^ 200 := Nat.lt_of_lt_of_le h (by decide)
    have := (Nat.log2_lt h0).mpr h2
    omega
theorem draw_ok {c : PotC} {n : Int} (hc : c.ss ≠ []) (h0 : 0 < n) (h1 : n.natAbs < 10 ^ 60) : ∃ r c', c'.ss ≠ [] ∧ 0 ≤ r ∧ r < n ∧ ff_law_draw [.pot c, .im (.int n)] = .ok (.im (.int r)) [.pot c', .im (.int n)] := by
  refine ⟨(drawV c n).1, (drawV c n).2, by rw [drawV_ss]; exact hc, drawV_lo h0, drawV_hi h0, ?_⟩
  unfold ff_law_draw
  dsimp only
  rw [if_pos ⟨hc, h0, log_small h1⟩]
theorem draw_nat {c : PotC} {n : Nat} (hc : c.ss ≠ []) (h0 : 0 < n) (h1 : n < 10 ^ 60) : ∃ (r : Nat) (c' : PotC), c'.ss ≠ [] ∧ r < n ∧ ff_law_draw [.pot c, .im (.int n)] = .ok (.im (.int r)) [.pot c', .im (.int n)] := by
  obtain ⟨r, c', a, b, d, e⟩ := draw_ok (n := (n : Int)) hc (by omega) (by simpa using h1)
  obtain ⟨k, rfl⟩ := Int.eq_ofNat_of_zero_le b
  exact ⟨k, c', a, by omega, e⟩
end Once

/-! FP12: rows mixed. -/
namespace Once
open PySem PySem.Spec L2 OD F
theorem mixed_eq {c : PotC} {xs : List D} (hc : c.ss ≠ []) (hl : xs.length < 1000000) : ∃ (c' : PotC) (ys : List D), c'.ss ≠ [] ∧ List.Perm ys xs ∧ ff_law_mixed [.pot c, .im (.lst xs)] = .ok (.im (.lst ys)) [.pot c', .im (.lst xs)] := by
  obtain ⟨s', e, c', ys, x, y, g1, g2, rfl⟩ := forL_inv (tg := gName 3) (body := fb_law_mixed_1) (xs := rgL 0 1 xs.length) (s := [some (.pot c), some (.im (.lst xs)), some (.lst xs), none, none])
    (fun j s => ∃ (c' : PotC) (ys : List D) (x y : Option Sv), c'.ss ≠ [] ∧ List.Perm ys xs ∧ s = [some (.pot c'), some (.im (.lst xs)), some (.lst ys), x, y])
    ⟨c, xs, none, none, hc, List.Perm.refl _, rfl⟩ fun j hj s w => by
      obtain ⟨c', ys, x, y, g1, g2, rfl⟩ := w
      have hj' : j < xs.length := by simpa using hj
      have hy : ys.length = xs.length := g2.length_eq
      obtain ⟨r, c2, k1, kr, e1⟩ := draw_nat (n := ys.length) g1 (by omega) (Nat.lt_trans (by omega : ys.length < 1000000) (by decide))
      have ix : ((rgL 0 1 xs.length)[j]'hj) = .int (j : Nat) := by simp
      have hjy : j < ys.length := by omega
      have a1 : atI ys (j : Int) = some ys[j] := atI_nat (List.getElem?_eq_getElem hjy)
      have a2 : atI ys (r : Int) = some ys[r] := atI_nat (List.getElem?_eq_getElem kr)
      have i1 : ixN ys.length (j : Int) = some j := ixN_nat hjy
      have i2 : ixN ys.length (r : Int) = some r := ixN_nat kr
      rw [ix]
      refine ⟨[some (.pot c'), some (.im (.lst xs)), some (.lst ys), some (.im (.int (j : Nat))), y], [some (.pot c2), some (.im (.lst xs)), some (.lst ((ys.set j ys[r]).set r ys[j])), some (.im (.int (j : Nat))), some (.im (.int (r : Nat)))], by simp, ?_, c2, _, _, _, k1, (List.set_set_perm hjy kr).trans g2, rfl⟩
      simp [fb_law_mixed_1, late, e1, a1, a2, i1, i2]
  refine ⟨c', ys, g1, g2, ?_⟩
  have h4 : xs.length ≤ 16777216 := by omega
  have h5 : (xs.length : Int) < 4611686018427387904 := by omega
  have h6 : ys.length ≤ 16777216 := by rw [g2.length_eq]; omega
  simp at e
  simp [ff_law_mixed, fDef_eq, fb_law_mixed, late, h4, h5, h6, e]
end Once

/-! FP13: new names. -/
namespace Once
open PySem PySem.Spec L2 OD F
def nms (us : List (List Nat)) : List D := us.map fun n => D.str (mkS n)
theorem scals_nms (us : List (List Nat)) : scals (nms us) = some (us.map fun n => V.str (mkS n)) := by
  unfold nms
  induction us with
  | nil => rfl
  | cons u r ih => simp [scals, OD.scal, ih]
theorem in_nms (n : List Nat) (us : List (List Nat)) : inW (.str (mkS n)) (.lst (nms us)) = some (decide (n ∈ us)) := by
  show (match OD.scal (.str (mkS n)), scals (nms us) with | some v, some vs => some (inV v vs) | _, _ => none) = _
  rw [scals_nms]
  show some (inV (.str (mkS n)) _) = _
  congr 1
  induction us with
  | nil => simp [inV]
  | cons u r ih =>
    have e : eqV (V.str (mkS u)) (V.str (mkS n)) = decide (n = u) := by
      show (mkS u == mkS n) = _
      by_cases h : n = u
      · subst h; simp
      · have : ¬ mkS u = mkS n := fun z => h (mkS_inj.mp z).symm
        simp [h, this]
    simp [inV] at ih ⊢
    rw [ih, e]
end Once

/-! PL2: a new name is found. -/
namespace Once
open PySem PySem.Spec L2 OD F
theorem nodup_le {α : Type} [DecidableEq α] : ∀ (l us : List α), l.Nodup → (∀ x ∈ l, x ∈ us) → l.length ≤ us.length := by
  intro l
  induction l with
  | nil => intro us _ _; simp
  | cons x l ih =>
    intro us hn hs
    rw [List.nodup_cons] at hn
    have hx : x ∈ us := hs x (by simp)
    have := ih (us.erase x) hn.2 fun y hy => (List.mem_erase_of_ne (fun z => hn.1 (by rw [← z]; exact hy))).mpr (hs y (by simp [hy]))
    rw [List.length_erase_of_mem hx] at this
    have hp : 0 < us.length := List.length_pos_of_mem hx
    simp only [List.length_cons]
    omega
theorem new_at (us : List (List Nat)) (s : Nat) (h : s + us.length < 217180147158) : ∃ j, j < us.length + 1 ∧ letters (s + j) ∉ us := by
  by_cases hh : ∃ j, j < us.length + 1 ∧ letters (s + j) ∉ us
  · exact hh
  · have ha : ∀ j, j < us.length + 1 → letters (s + j) ∈ us := fun j hj => by
      by_cases hm : letters (s + j) ∈ us
      · exact hm
      · exact (hh ⟨j, hj, hm⟩).elim
    have hn : ((List.range (us.length + 1)).map fun j => letters (s + j)).Nodup := by
      rw [List.nodup_iff_pairwise_ne, List.pairwise_map]
      refine (List.nodup_iff_pairwise_ne.mp List.nodup_range).imp_of_mem fun {a b} hma hmb hne z => hne ?_
      rw [List.mem_range] at hma hmb
      have := letters_inj (by omega) (by omega) z
      omega
    have := nodup_le _ us hn fun x hx => by
      obtain ⟨j, hj, rfl⟩ := List.mem_map.mp hx
      exact ha j (List.mem_range.mp hj)
    simp at this
    omega
end Once

/-! FP14: _law_fresh. -/
namespace Once
open PySem PySem.Spec L2 OD F
theorem fresh_loop (c : PotC) (us : List (List Nat)) (s : Nat) (hs : s < 90000000000000) : ∀ (k t : Nat) (nm x : Option Sv), t + k < 1000000 → s + (t + k) ≤ 217180147158 → (∃ j, t ≤ j ∧ j < t + k ∧ letters (s + j) ∉ us) →
    ∃ n x', okn n ∧ n ∉ us ∧ forL (gName 4) fb_law_fresh_1 ((List.range' t k).map fun (i : Nat) => D.int (i : Int)) [some (.pot c), some (.lst (nms us)), some (.im (.int (s : Nat))), nm, x] = .nx [some (.pot c), some (.lst (nms us)), some (.im (.int (s : Nat))), some (.im (.str (mkS n))), x'] := by
  intro k
  induction k with
  | zero => intro t nm x _ _ ⟨j, h1, h2, _⟩; omega
  | succ k ih =>
    intro t nm x hk hb hj
    have h1 := law_letters_eq (n := s + t) (by omega)
    have h2 := in_nms (letters (s + t)) us
    have e1 : (s : Int) + (t : Int) = ((s + t : Nat) : Int) := by omega
    rw [← e1] at h1
    clear e1
    rw [List.range'_succ, List.map_cons]
    by_cases hm : letters (s + t) ∈ us
    · obtain ⟨n, x', g1, g2, e⟩ := ih (t + 1) (some (.im (.str (mkS (letters (s + t)))))) (some (.im (.int (t : Nat)))) (by omega) (by omega) (by
        obtain ⟨j, a, b, d⟩ := hj
        refine ⟨j, ?_, by omega, d⟩
        rcases Nat.eq_or_lt_of_le a with rfl | a
        · exact absurd hm d
        · exact a)
      refine ⟨n, x', g1, g2, ?_⟩
      rw [forL_step (s1 := [some (.pot c), some (.lst (nms us)), some (.im (.int (s : Nat))), nm, some (.im (.int (t : Nat)))]) (s2 := [some (.pot c), some (.lst (nms us)), some (.im (.int (s : Nat))), some (.im (.str (mkS (letters (s + t))))), some (.im (.int (t : Nat)))]) (by simp) (by
        simp only [fb_law_fresh_1]
        simp [late, h1, h2, hm]), e]
    · refine ⟨letters (s + t), some (.im (.int (t : Nat))), letters_ok (by omega), hm, ?_⟩
      rw [forL_cons (s1 := [some (.pot c), some (.lst (nms us)), some (.im (.int (s : Nat))), nm, some (.im (.int (t : Nat)))]) (by simp)]
      simp only [fb_law_fresh_1]
      simp [late, h1, h2, hm]
end Once

/-! FP15: _law_fresh. -/
namespace Once
open PySem PySem.Spec L2 OD F
theorem law_fresh_eq {c : PotC} {us : List (List Nat)} (hc : c.ss ≠ []) (hl : us.length < 5000) : ∃ (c' : PotC) (n : List Nat), c'.ss ≠ [] ∧ okn n ∧ n ∉ us ∧ ff_law_fresh [.pot c, .lst (nms us)] = .ok (.im (.str (mkS n))) [.pot c', .lst (nms (us ++ [n]))] := by
  obtain ⟨r1, c1, k1, l1, e1⟩ := draw_nat (n := 30) hc (by omega) (by decide)
  obtain ⟨r2, c2, k2, l2, e2⟩ := draw_nat (n := 2) k1 (by omega) (by decide)
  obtain ⟨r3, c3, k3, l3, e3⟩ := draw_nat (n := 217180140000) k2 (by omega) (by decide)
  have hlen : (nms us).length = us.length := by unfold nms; rw [List.length_map]
  have hz : us.length < 16777216 := by omega
  have hi : (us.length : Int) + 1 < 4611686018427387904 := by omega
  have hj : -4611686018427387904 ≤ (us.length : Int) + 1 := by omega
  have lp : ∀ (cc : PotC) (s : Nat), s < 217180140000 → ∃ n x', okn n ∧ n ∉ us ∧ forL (gName 4) fb_law_fresh_1 (rgL 0 1 (us.length + 1)) [some (.pot cc), some (.lst (nms us)), some (.im (.int (s : Nat))), some (.im (.str (mkS []))), none] = .nx [some (.pot cc), some (.lst (nms us)), some (.im (.int (s : Nat))), some (.im (.str (mkS n))), x'] := by
    intro cc s hs
    obtain ⟨j, hj, hm⟩ := new_at us s (by omega)
    obtain ⟨n, x', g1, g2, e⟩ := fresh_loop cc us s (by omega) (us.length + 1) 0 (some (.im (.str (mkS [])))) none (by omega) (by omega) ⟨j, by omega, by omega, hm⟩
    refine ⟨n, x', g1, g2, ?_⟩
    rw [← e]
    congr 1
    unfold rgL
    rw [List.range_eq_range']
    simp
  by_cases h0 : r2 = 0
  · subst h0
    obtain ⟨n, x', g1, g2, e⟩ := lp c3 r3 l3
    refine ⟨c3, n, k3, g1, g2, ?_⟩
    simp at e e1 e2 e3
    simp [ff_law_fresh, fDef_eq, fb_law_fresh, late, e1, e2, e3, s_no, hlen, hi, hj, hz, e]
    simp [nms]
  · have hr : ¬ (r2 : Int) = 0 := by omega
    obtain ⟨n, x', g1, g2, e⟩ := lp c2 r1 (by omega)
    refine ⟨c2, n, k2, g1, g2, ?_⟩
    simp at e e1 e2 e3
    simp [ff_law_fresh, fDef_eq, fb_law_fresh, late, e1, e2, h0, hr, s_no, hlen, hi, hj, hz, e]
    simp [nms]
end Once

/-! FP16: one turn of _law_words. -/
namespace Once
open PySem PySem.Spec L2 OD F
/-- a row of names that waits, and its gives -/
def wt (R : List (List Nat)) (g : Nat) : D := .tup [.lst (nms R), .int (g : Nat)]
abbrev wst (c : PotC) (a b : D) (us : List (List Nat)) (fo : List D) (wa : List D) (o6 o7 o8 o9 o10 o11 o12 o13 : Option Sv) : Sl := [some (.pot c), some (.im a), some (.im b), some (.lst (nms us)), some (.lst fo), some (.lst wa), o6, o7, o8, o9, o10, o11, o12, o13]
theorem turn_use {c : PotC} {a b : D} {us : List (List Nat)} {fo wa : List D} {n : List Nat} {o6 o7 o8 o9 o10 o11 o12 o13 : Option Sv} (hf : fo.length < 10000) (hw : wa.length < 10000) :
    fb_law_words_1 (wst c a b us fo (wa ++ [wt [n] 0]) o6 o7 o8 o9 o10 o11 o12 o13) = .nx (wst c a b us (fo ++ [.str (mkS n)]) wa o6 (some (.im (.lst (nms [n])))) (some (.im (.int 0))) o9 o10 o11 o12 o13) := by
  have h1 : wa.length + 1 ≠ 0 := by omega
  have h2 : ¬ ((wa.length : Int) + 1 = 0) := by omega
  have h3 : fo.length < 16777216 := by omega
  have h4 : atI (nms [n]) 0 = some (.str (mkS n)) := rfl
  have h5 : (nms [n]).length = 1 := rfl
  simp [fb_law_words_1, late, wt, h2, h3, h4, h5]
theorem nms_app (R S : List (List Nat)) : nms R ++ nms S = nms (R ++ S) := by simp [nms]
theorem nms_len (R : List (List Nat)) : (nms R).length = R.length := by simp [nms]
/-- a turn that takes: none left to give, or few names and the draw 0 -/
theorem turn_take0 {c : PotC} {a b : D} {us : List (List Nat)} {fo wa : List D} {R : List (List Nat)} {o6 o7 o8 o9 o10 o11 o12 o13 : Option Sv} (hf : fo.length < 10000) (hw : wa.length < 10000) (hc : c.ss ≠ []) (hu : us.length < 5000) (hR : R.length ≠ 1) (hRl : R.length < 5000) :
    ∃ (c' : PotC) (n : List Nat), c'.ss ≠ [] ∧ okn n ∧ n ∉ us ∧ fb_law_words_1 (wst c a b us fo (wa ++ [wt R 0]) o6 o7 o8 o9 o10 o11 o12 o13) = .nx (wst c' a b (us ++ [n]) (fo ++ [.str (mkS (47 :: n))]) (wa ++ [wt (R ++ [n]) 0]) o6 (some (.im (.lst (nms R)))) (some (.im (.int 0))) (some (.im (.str (mkS n)))) o10 o11 o12 o13) := by
  obtain ⟨c', n, k1, k2, k3, e⟩ := law_fresh_eq hc hu
  refine ⟨c', n, k1, k2, k3, ?_⟩
  have h2 : ¬ ((wa.length : Int) + 1 = 0) := by omega
  have h3 : fo.length < 16777216 := by omega
  have h4 : wa.length < 16777216 := by omega
  have h5 : ¬ ((R.length : Int) = 1) := by omega
  have h6 : 1 + n.length ≤ 16777216 := by have := k2.2.1; omega
  have h7 : R.length + 1 ≤ 16777216 := by omega
  simp [fb_law_words_1, late, wt, h2, h3, h4, h5, nms_len, e, s_sl, h6, h7, hR]
  simp [nms]
theorem turn_take1 {c c1 : PotC} {a b : D} {us : List (List Nat)} {fo wa : List D} {R : List (List Nat)} {g : Nat} {o6 o7 o8 o9 o10 o11 o12 o13 : Option Sv} (hf : fo.length < 10000) (hw : wa.length < 10000) (hc : c1.ss ≠ []) (hu : us.length < 5000) (hR : R.length ≤ g) (hg : 0 < g) (hRl : R.length < 5000)
    (hd : ff_law_draw [.pot c, .im (.int 2)] = .ok (.im (.int 0)) [.pot c1, .im (.int 2)]) :
    ∃ (c' : PotC) (n : List Nat), c'.ss ≠ [] ∧ okn n ∧ n ∉ us ∧ fb_law_words_1 (wst c a b us fo (wa ++ [wt R g]) o6 o7 o8 o9 o10 o11 o12 o13) = .nx (wst c' a b (us ++ [n]) (fo ++ [.str (mkS (47 :: n))]) (wa ++ [wt (R ++ [n]) g]) o6 (some (.im (.lst (nms R)))) (some (.im (.int g))) (some (.im (.str (mkS n)))) o10 o11 o12 o13) := by
  obtain ⟨c', n, k1, k2, k3, e⟩ := law_fresh_eq hc hu
  refine ⟨c', n, k1, k2, k3, ?_⟩
  have h2 : ¬ ((wa.length : Int) + 1 = 0) := by omega
  have h3 : fo.length < 16777216 := by omega
  have h4 : wa.length < 16777216 := by omega
  have h5 : ¬ ((g : Int) = 0) := by omega
  have h5' : ¬ (g = 0) := by omega
  have h6 : 1 + n.length ≤ 16777216 := by have := k2.2.1; omega
  have h7 : R.length + 1 ≤ 16777216 := by omega
  have h8 : (R.length : Int) ≤ (g : Int) := by omega
  simp [fb_law_words_1, late, wt, h2, h3, h4, h5, h5', nms_len, e, hd, s_sl, h6, h7, h8, hR]
  simp [nms]
end Once

/-! FP17: a turn of _law_words that gives. -/
namespace Once
open PySem PySem.Spec L2 OD F
theorem nms_take (R : List (List Nat)) (k : Nat) : (nms R).take k = nms (R.take k) := by simp [nms, List.map_take]
theorem nms_drop (R : List (List Nat)) (k : Nat) : (nms R).drop k = nms (R.drop k) := by simp [nms, List.map_drop]
theorem nms_perm {R : List (List Nat)} {ys : List D} (h : List.Perm ys (nms R)) : ∃ R', List.Perm R' R ∧ ys = nms R' := by
  unfold nms at h
  obtain ⟨R', h1, h2⟩ : ∃ R', List.Perm R' R ∧ ys = R'.map fun n => D.str (mkS n) := by
    have := List.Perm.map (fun d : D => match d with | .str s => s.cps.toList | _ => []) h
    refine ⟨ys.map fun d : D => match d with | .str s => s.cps.toList | _ => [], ?_, ?_⟩
    · rw [List.map_map] at this
      refine this.trans (List.Perm.of_eq ?_)
      rw [List.map_congr_left (g := id)]
      · simp
      · intro a _; simp
    · rw [List.map_map]
      conv => lhs; rw [← List.map_id ys]
      refine List.map_congr_left fun d hd => ?_
      obtain ⟨n, _, rfl⟩ := List.mem_map.mp (h.mem_iff.mp hd)
      simp
  exact ⟨R', h1, h2⟩
theorem max2_nat (a b : Int) : max2 (.int a) (.int b) = some (.int (max a b)) := by
  show some (D.int (if b > a then b else a)) = _
  congr 2
  split <;> omega
theorem min2_nat (a b : Int) : min2 (.int a) (.int b) = some (.int (min a b)) := by
  show some (D.int (if b < a then b else a)) = _
  congr 2
  split <;> omega
/-- a turn that gives -/
theorem turn_give {c c1 : PotC} {a b : D} {us : List (List Nat)} {fo wa : List D} {R : List (List Nat)} {g : Nat} {o6 o7 o8 o9 o10 o11 o12 o13 : Option Sv} (hf : fo.length < 10000) (hw : wa.length < 10000) (hc : c1.ss ≠ []) (hR : R.length ≤ g + 1) (hg : 0 < g) (hgl : g < 5000)
    (hd : (R.length ≤ g ∧ ∃ r : Nat, r ≠ 0 ∧ ff_law_draw [.pot c, .im (.int 2)] = .ok (.im (.int r)) [.pot c1, .im (.int 2)]) ∨ (¬ R.length ≤ g ∧ c = c1)) :
    ∃ (c' : PotC) (A B : List (List Nat)) (g1 g2 : Nat) (p7 p8 p9 p10 p11 p12 p13 : Option Sv), c'.ss ≠ [] ∧ List.Perm (A ++ B) R ∧ g1 + g2 + 1 = g ∧ A.length ≤ g1 + 1 ∧ B.length ≤ g2 + 1 ∧ fb_law_words_1 (wst c a b us fo (wa ++ [wt R g]) o6 o7 o8 o9 o10 o11 o12 o13) = .nx (wst c' a b us (fo ++ [.str (mkS [64])]) (wa ++ [wt B g2] ++ [wt A g1]) o6 p7 p8 p9 p10 p11 p12 p13) := by
  have hRl : (nms R).length < 1000000 := by rw [nms_len]; omega
  obtain ⟨c2, ys, k1, k2, e1⟩ := mixed_eq (xs := nms R) hc hRl
  obtain ⟨Q, hp, rfl⟩ := nms_perm k2
  have hQ : Q.length = R.length := hp.length_eq
  -- the cut
  have m1 : max 0 ((Q.length : Int) - (g : Int)) = ((Q.length - g : Nat) : Int) := by omega
  have m2 : min (Q.length : Int) (g : Int) = ((min Q.length g : Nat) : Int) := by omega
  obtain ⟨r1, c3, j1, j2, e2⟩ := draw_nat (n := min Q.length g - (Q.length - g) + 1) k1 (by omega) (Nat.lt_of_le_of_lt (by omega : _ ≤ 10000) (by decide))
  obtain ⟨cut, hcut⟩ : ∃ cut, cut = Q.length - g + r1 := ⟨_, rfl⟩
  have hcl : cut ≤ Q.length := by omega
  have hcg : cut ≤ g := by omega
  have m3 : max 0 ((cut : Int) - 1) = ((cut - 1 : Nat) : Int) := by omega
  have m4 : max 0 ((Q.length : Int) - (cut : Int) - 1) = ((Q.length - cut - 1 : Nat) : Int) := by omega
  obtain ⟨r2, c4, i1, i2, e3⟩ := draw_nat (n := g - 1 - (Q.length - cut - 1) - (cut - 1) + 1) j1 (by omega) (Nat.lt_of_le_of_lt (by omega : _ ≤ 10000) (by decide))
  have n1 : (((min Q.length g - (Q.length - g) + 1 : Nat)) : Int) = ((min Q.length g : Nat) : Int) - ((Q.length - g : Nat) : Int) + 1 := by omega
  have n2 : ((g - 1 - (Q.length - cut - 1) - (cut - 1) + 1 : Nat) : Int) = (g : Int) - 1 - ((Q.length - cut - 1 : Nat) : Int) - ((cut - 1 : Nat) : Int) + 1 := by omega
  have n3 : ((Q.length - g : Nat) : Int) + (r1 : Int) = (cut : Int) := by omega
  obtain ⟨more, hmore⟩ : ∃ more, more = cut - 1 + r2 := ⟨_, rfl⟩
  have n4 : ((cut - 1 : Nat) : Int) + (r2 : Int) = (more : Int) := by omega
  have n5 : (g : Int) - 1 - (more : Int) = ((g - 1 - more : Nat) : Int) := by omega
  rw [n1] at e2
  rw [n2] at e3
  have w2 : ¬ ((wa.length : Int) + 1 = 0) := by omega
  have w3 : fo.length < 16777216 := by omega
  have w4 : wa.length < 16777216 := by omega
  have w4' : wa.length + 1 < 16777216 := by omega
  have w5 : ¬ ((g : Int) = 0) := by omega
  have w5' : ¬ (g = 0) := by omega
  have w6 : Q.length ≤ 16777216 := by omega
  have cut1 := cutL_suf (nms Q) cut
  have cut2 := cutL_pre (nms Q) cut
  rw [nms_drop] at cut1
  rw [nms_take] at cut2
  refine ⟨c4, Q.take cut, Q.drop cut, more, g - 1 - more, some (.im (.lst (nms Q))), some (.im (.int (g : Nat))), o9, some (.im (.int ((Q.length - g : Nat) : Int))), some (.im (.int (cut : Nat))), some (.im (.int ((cut - 1 : Nat) : Int))), some (.im (.int (more : Nat))), i1, by rw [List.take_append_drop]; exact hp, by omega, by rw [List.length_take]; omega, by rw [List.length_drop]; omega, ?_⟩
  rcases hd with ⟨hle, r, hr, hd⟩ | ⟨hle, rfl⟩
  · have w7 : (R.length : Int) ≤ (g : Int) := by omega
    have w8 : ¬ ((r : Int) = 0) := by omega
    simp [-max2, -min2, fb_law_words_1, late, wt, w2, w3, w4, w4', w5, w5', nms_len, hd, w7, w8, hr, hle, e1, max2_nat, min2_nat, m1, m2, m3, m4, e2, e3, n3, n4, n5, s_at, cut1, cut2]
  · have w7 : ¬ (R.length : Int) ≤ (g : Int) := by omega
    simp [-max2, -min2, fb_law_words_1, late, wt, w2, w3, w4, w4', w5, w5', nms_len, w7, hle, e1, max2_nat, min2_nat, m1, m2, m3, m4, e2, e3, n3, n4, n5, s_at, cut1, cut2]
end Once

/-! FP18: the tree of the words drawn. -/
namespace Once
open PySem PySem.Spec L2 OD F
def Tr.uses : Tr → List (List Nat)
  | .us n => [n]
  | .tk _ b => b.uses
  | .gv l r => l.uses ++ r.uses
def Tr.takes : Tr → List (List Nat)
  | .us _ => []
  | .tk n b => n :: b.takes
  | .gv l r => l.takes ++ r.takes
def Tr.gives : Tr → Nat
  | .us _ => 0
  | .tk _ b => b.gives
  | .gv l r => l.gives + r.gives + 1
theorem Tr.mem_uses (t : Tr) (n : List Nat) : n ∈ t.uses ↔ Pw.us n ∈ t.pre := by
  induction t with
  | us m => simp [Tr.uses, Tr.pre]
  | tk m b ih => simp [Tr.uses, Tr.pre, ih]
  | gv l r ihl ihr => simp [Tr.uses, Tr.pre, ihl, ihr]
/-- a tree drawn: with these open names, and these new ones -/
structure Dw (T : Tr) (R N : List (List Nat)) : Prop where
  ok : T.ok
  us : List.Perm T.uses (R ++ N)
  tk : List.Perm T.takes N
  cl : T.cl
abbrev tg6 : FG := gName 6
theorem words_tree : ∀ (k : Nat) (R : List (List Nat)) (g : Nat) (ys xs : List D) (c : PotC) (a b : D) (us : List (List Nat)) (fo wa : List D) (o6 o7 o8 o9 o10 o11 o12 o13 : Option Sv), k + R.length = 3 * g + 2 → R.length ≤ g + 1 → ys.length = k → c.ss ≠ [] → (∀ n ∈ R, okn n) → us.length + k < 4000 → fo.length + k < 9000 → wa.length + k < 9000 →
    ∃ (c' : PotC) (N : List (List Nat)) (T : Tr) (p6 p7 p8 p9 p10 p11 p12 p13 : Option Sv), c'.ss ≠ [] ∧ N.Nodup ∧ (∀ n ∈ N, okn n ∧ n ∉ us) ∧ Dw T R N ∧ T.size = k ∧ T.gives = g ∧
      forL (gName 6) fb_law_words_1 (ys ++ xs) (wst c a b us fo (wa ++ [wt R g]) o6 o7 o8 o9 o10 o11 o12 o13) = forL (gName 6) fb_law_words_1 xs (wst c' a b (us ++ N) (fo ++ T.pre.map pw) wa p6 p7 p8 p9 p10 p11 p12 p13) := by
  intro k
  induction k using Nat.strongRecOn with
  | ind k ih =>
    intro R g ys xs c a b us fo wa o6 o7 o8 o9 o10 o11 o12 o13 hk hR hy hc hok hus hfo hwa
    match ys, hy with
    | [], hy => simp at hy; omega
    | y :: ys, hy =>
      rw [List.length_cons] at hy
      have s1 : ∀ w, (gName 6 y (wst c a b us fo w o6 o7 o8 o9 o10 o11 o12 o13)) = some (wst c a b us fo w (some (.im y)) o7 o8 o9 o10 o11 o12 o13) := fun w => rfl
      -- a turn that takes, and what comes behind
      have take : ∀ (c1 : PotC) (n : List Nat) (q9 : Option Sv) (q7 q8 : Option Sv), c1.ss ≠ [] → okn n → n ∉ us → R.length + 1 ≤ g + 1 →
          fb_law_words_1 (wst c a b us fo (wa ++ [wt R g]) (some (.im y)) o7 o8 o9 o10 o11 o12 o13) = .nx (wst c1 a b (us ++ [n]) (fo ++ [.str (mkS (47 :: n))]) (wa ++ [wt (R ++ [n]) g]) (some (.im y)) q7 q8 q9 o10 o11 o12 o13) →
          ∃ (c' : PotC) (N : List (List Nat)) (T : Tr) (p6 p7 p8 p9 p10 p11 p12 p13 : Option Sv), c'.ss ≠ [] ∧ N.Nodup ∧ (∀ n ∈ N, okn n ∧ n ∉ us) ∧ Dw T R N ∧ T.size = k ∧ T.gives = g ∧
            forL (gName 6) fb_law_words_1 (y :: ys ++ xs) (wst c a b us fo (wa ++ [wt R g]) o6 o7 o8 o9 o10 o11 o12 o13) = forL (gName 6) fb_law_words_1 xs (wst c' a b (us ++ N) (fo ++ T.pre.map pw) wa p6 p7 p8 p9 p10 p11 p12 p13) := by
        intro c1 n q9 q7 q8 h1 h2 h3 h4 e
        obtain ⟨c', N, T, p6, p7, p8, p9, p10, p11, p12, p13, k1, k2, k3, k4, k5, k6, e2⟩ := ih (k - 1) (by omega) (R ++ [n]) g ys xs c1 a b (us ++ [n]) (fo ++ [.str (mkS (47 :: n))]) wa (some (.im y)) q7 q8 q9 o10 o11 o12 o13 (by simp; omega) (by simp; omega) (by omega) h1 (by
          intro m hm
          rcases List.mem_append.mp hm with hm | hm
          · exact hok m hm
          · rw [List.mem_singleton.mp hm]; exact h2) (by simp; omega) (by simp; omega) (by omega)
        have hn : n ∉ N := fun z => (k3 n z).2 (by simp)
        refine ⟨c', n :: N, .tk n T, p6, p7, p8, p9, p10, p11, p12, p13, k1, List.nodup_cons.mpr ⟨hn, k2⟩, ?_, ⟨⟨h2, k4.ok⟩, ?_, ?_, ?_, k4.cl⟩, by simp [Tr.size, k5]; omega, by simp [Tr.gives, k6], ?_⟩
        · intro m hm
          rcases List.mem_cons.mp hm with rfl | hm
          · exact ⟨h2, h3⟩
          · exact ⟨(k3 m hm).1, fun z => (k3 m hm).2 (by simp [z])⟩
        · refine k4.us.trans (List.Perm.of_eq ?_)
          simp
        · exact k4.tk.cons n
        · rw [← Tr.mem_uses]
          exact k4.us.mem_iff.mpr (by simp)
        · rw [List.cons_append, forL_step (s1 _) e, e2]
          simp [Tr.pre, pw]
      by_cases hg : g = 0
      · subst hg
        by_cases hR1 : R.length = 1
        · obtain ⟨n, rfl⟩ := List.length_eq_one_iff.mp hR1
          have hk1 : k = 1 := by simp at hk; omega
          have hy0 : ys = [] := List.length_eq_zero_iff.mp (by omega)
          subst hy0
          refine ⟨c, [], .us n, some (.im y), some (.im (.lst (nms [n]))), some (.im (.int 0)), o9, o10, o11, o12, o13, hc, List.nodup_nil, fun m hm => (nomatch hm), ⟨hok n (List.mem_singleton.mpr rfl), List.Perm.refl _, List.Perm.refl _, trivial⟩, by rw [hk1]; rfl, rfl, ?_⟩
          rw [List.cons_append, forL_step (s1 _) (turn_use (by omega) (by omega))]
          simp [Tr.pre, pw]
        · obtain ⟨c1, n, h1, h2, h3, e⟩ := turn_take0 (R := R) (us := us) (a := a) (b := b) (fo := fo) (wa := wa) (o6 := some (.im y)) (o7 := o7) (o8 := o8) (o9 := o9) (o10 := o10) (o11 := o11) (o12 := o12) (o13 := o13) (by omega) (by omega) hc (by omega) hR1 (by omega)
          exact take c1 n _ _ _ h1 h2 h3 (by omega) e
      · have give : ∀ c1 : PotC, c1.ss ≠ [] → ((R.length ≤ g ∧ ∃ r : Nat, r ≠ 0 ∧ ff_law_draw [.pot c, .im (.int 2)] = .ok (.im (.int r)) [.pot c1, .im (.int 2)]) ∨ (¬ R.length ≤ g ∧ c = c1)) →
            ∃ (c' : PotC) (N : List (List Nat)) (T : Tr) (p6 p7 p8 p9 p10 p11 p12 p13 : Option Sv), c'.ss ≠ [] ∧ N.Nodup ∧ (∀ n ∈ N, okn n ∧ n ∉ us) ∧ Dw T R N ∧ T.size = k ∧ T.gives = g ∧
              forL (gName 6) fb_law_words_1 (y :: ys ++ xs) (wst c a b us fo (wa ++ [wt R g]) o6 o7 o8 o9 o10 o11 o12 o13) = forL (gName 6) fb_law_words_1 xs (wst c' a b (us ++ N) (fo ++ T.pre.map pw) wa p6 p7 p8 p9 p10 p11 p12 p13) := by
          intro c1 h1 hd
          obtain ⟨c2, A, B, g1, g2, q7, q8, q9, q10, q11, q12, q13, j1, j2, j3, j4, j5, e⟩ := turn_give (a := a) (b := b) (us := us) (fo := fo) (wa := wa) (R := R) (g := g) (o6 := some (.im y)) (o7 := o7) (o8 := o8) (o9 := o9) (o10 := o10) (o11 := o11) (o12 := o12) (o13 := o13) (by omega) (by omega) h1 hR (by omega) (by omega) hd
          have hAB : A.length + B.length = R.length := by
            have := j2.length_eq
            rw [List.length_append] at this
            exact this
          have okAB : ∀ m, m ∈ A ∨ m ∈ B → okn m := fun m hm => hok m (j2.mem_iff.mp (List.mem_append.mpr hm))
          obtain ⟨ka, hka⟩ : ∃ ka, ka + A.length = 3 * g1 + 2 := ⟨3 * g1 + 2 - A.length, by omega⟩
          obtain ⟨kb, hkb⟩ : ∃ kb, kb + B.length = 3 * g2 + 2 := ⟨3 * g2 + 2 - B.length, by omega⟩
          have hkk : k = ka + kb + 1 := by omega
          obtain ⟨ya, yb, rfl, la, lb⟩ : ∃ ya yb, ys = ya ++ yb ∧ ya.length = ka ∧ yb.length = kb := ⟨ys.take ka, ys.drop ka, by simp, by simp; omega, by simp; omega⟩
          obtain ⟨c3, N1, T1, p6, p7, p8, p9, p10, p11, p12, p13, k1, k2, k3, k4, k5, k6, e2⟩ := ih ka (by omega) A g1 ya (yb ++ xs) c2 a b us (fo ++ [.str (mkS [64])]) (wa ++ [wt B g2]) (some (.im y)) q7 q8 q9 q10 q11 q12 q13 hka j4 la j1 (fun m hm => okAB m (.inl hm)) (by omega) (by simp; omega) (by simp; omega)
          have hN1 : N1.length ≤ ka := by
            have h1 := k4.tk.length_eq
            have h2 : T1.takes.length ≤ T1.size := by
              clear e2 k4 h1 k6
              have : ∀ T : Tr, T.takes.length ≤ T.size := by
                intro T
                induction T with
                | us _ => simp [Tr.takes]
                | tk _ b ih => simp [Tr.takes, Tr.size, ih]
                | gv l r ihl ihr => simp [Tr.takes, Tr.size]; omega
              exact this T1
            omega
          obtain ⟨c4, N2, T2, u6, u7, u8, u9, u10, u11, u12, u13, l1, l2, l3, l4, l5, l6, e3⟩ := ih kb (by omega) B g2 yb xs c3 a b (us ++ N1) (fo ++ [.str (mkS [64])] ++ T1.pre.map pw) wa p6 p7 p8 p9 p10 p11 p12 p13 hkb j5 lb k1 (fun m hm => okAB m (.inr hm)) (by simp; omega) (by simp [Tr.pre_len]; omega) (by omega)
          refine ⟨c4, N1 ++ N2, .gv T1 T2, u6, u7, u8, u9, u10, u11, u12, u13, l1, ?_, ?_, ⟨⟨k4.ok, l4.ok⟩, ?_, k4.tk.append l4.tk, k4.cl, l4.cl⟩, by simp [Tr.size, k5, l5]; omega, by simp [Tr.gives, k6, l6]; omega, ?_⟩
          · refine List.nodup_append.mpr ⟨k2, l2, fun x hx y hy z => ?_⟩
            subst z
            exact (l3 x hy).2 (by simp [hx])
          · intro m hm
            rcases List.mem_append.mp hm with hm | hm
            · exact k3 m hm
            · exact ⟨(l3 m hm).1, fun z => (l3 m hm).2 (by simp [z])⟩
          · show List.Perm (T1.uses ++ T2.uses) (R ++ (N1 ++ N2))
            refine (k4.us.append l4.us).trans ?_
            refine List.Perm.trans ?_ (j2.append_right (N1 ++ N2))
            rw [List.append_assoc, List.append_assoc]
            refine List.Perm.append_left A ?_
            rw [← List.append_assoc, ← List.append_assoc]
            exact List.perm_append_comm.append_right N2
          · rw [List.cons_append, forL_step (s1 _) e, List.append_assoc, e2, e3]
            simp [Tr.pre, pw]
        by_cases hle : R.length ≤ g
        · obtain ⟨r, c1, h1, h2, hd⟩ := draw_nat (n := 2) hc (by omega) (by decide)
          by_cases hr : r = 0
          · subst hr
            obtain ⟨c2, n, h1, h2, h3, e⟩ := turn_take1 (a := a) (b := b) (fo := fo) (wa := wa) (R := R) (g := g) (o6 := some (.im y)) (o7 := o7) (o8 := o8) (o9 := o9) (o10 := o10) (o11 := o11) (o12 := o12) (o13 := o13) (us := us) (by omega) (by omega) h1 (by omega) hle (by omega) (by omega) hd
            exact take c2 n _ _ _ h1 h2 h3 (by omega) e
          · exact give c1 h1 (.inl ⟨hle, r, hr, hd⟩)
        · exact give c hc (.inr ⟨hle, rfl⟩)
end Once

/-! FP19: _law_words. -/
namespace Once
open PySem PySem.Spec L2 OD F
theorem words_stop (xs : List D) (c : PotC) (a b : D) (us : List (List Nat)) (fo : List D) (o6 o7 o8 o9 o10 o11 o12 o13 : Option Sv) : ∃ p6, forL (gName 6) fb_law_words_1 xs (wst c a b us fo [] o6 o7 o8 o9 o10 o11 o12 o13) = .nx (wst c a b us fo [] p6 o7 o8 o9 o10 o11 o12 o13) := by
  cases xs with
  | nil => exact ⟨o6, rfl⟩
  | cons y ys =>
    refine ⟨some (.im y), ?_⟩
    rw [forL_cons (s1 := wst c a b us fo [] (some (.im y)) o7 o8 o9 o10 o11 o12 o13) rfl]
    simp [fb_law_words_1, late]
theorem law_words_eq {c : PotC} {R us : List (List Nat)} {g : Nat} (hc : c.ss ≠ []) (hR : R.length ≤ g + 1) (hg : g ≤ 1000) (ok : ∀ n ∈ R, okn n) (hu : us.length < 900) :
    ∃ (c' : PotC) (N : List (List Nat)) (T : Tr), c'.ss ≠ [] ∧ N.Nodup ∧ (∀ n ∈ N, okn n ∧ n ∉ us) ∧ Dw T R N ∧ T.size + R.length = 3 * g + 2 ∧ T.gives = g ∧
      ff_law_words [.pot c, .im (.lst (nms R)), .im (.int (g : Nat)), .lst (nms us)] = .ok (.im (pws T.pre)) [.pot c', .im (.lst (nms R)), .im (.int (g : Nat)), .lst (nms (us ++ N))] := by
  obtain ⟨k, hk⟩ : ∃ k, k + R.length = 3 * g + 2 := ⟨3 * g + 2 - R.length, by omega⟩
  have hl : (rgL 0 1 (3 * g + 2)).length = 3 * g + 2 := by simp [rgL]
  obtain ⟨c', N, T, p6, p7, p8, p9, p10, p11, p12, p13, k1, k2, k3, k4, k5, k6, e⟩ := words_tree k R g ((rgL 0 1 (3 * g + 2)).take k) ((rgL 0 1 (3 * g + 2)).drop k) c (.lst (nms R)) (.int (g : Nat)) us [] [] none none none none none none none none hk hR (by rw [List.length_take, hl]; omega) hc ok (by omega) (by simp; omega) (by simp; omega)
  obtain ⟨q6, e2⟩ := words_stop ((rgL 0 1 (3 * g + 2)).drop k) c' (.lst (nms R)) (.int (g : Nat)) (us ++ N) ([] ++ T.pre.map pw) p6 p7 p8 p9 p10 p11 p12 p13
  rw [List.take_append_drop, e2] at e
  refine ⟨c', N, T, k1, k2, k3, k4, by omega, k6, ?_⟩
  have h1 : 3 * (g : Int) + 2 < 4611686018427387904 := by omega
  have h2 : -4611686018427387904 ≤ 3 * (g : Int) + 2 := by omega
  have h3 : (3 * (g : Int) + 2).toNat = 3 * g + 2 := by omega
  have h4 : R.length ≤ 16777216 := by omega
  have h5 : T.size ≤ 16777216 := by omega
  simp only [List.nil_append] at e
  simp [wt] at e
  have hm : mulSm 3 (g : Int) = true := mulSm_l (by decide) (by decide)
  simp [ff_law_words, fDef_eq, fb_law_words, late, hm, h1, h2, h3, h4, h5, nms_len, T.pre_len, e, pws]
theorem law_size_eq {c : PotC} {m : Nat} (hc : c.ss ≠ []) (hm : m < 100000) : ∃ (c' : PotC) (r : Nat), c'.ss ≠ [] ∧ r ≤ max m 9 ∧ ff_law_size [.pot c, .im (.int (m : Nat))] = .ok (.im (.int (r : Nat))) [.pot c', .im (.int (m : Nat))] := by
  obtain ⟨r1, c1, k1, l1, e1⟩ := draw_nat (n := 32) hc (by omega) (by decide)
  obtain ⟨r2, c2, k2, l2, e2⟩ := draw_nat (n := m + 1) k1 (by omega) (Nat.lt_of_le_of_lt (by omega : _ ≤ 100000) (by decide))
  obtain ⟨r3, c3, k3, l3, e3⟩ := draw_nat (n := 5) k1 (by omega) (by decide)
  obtain ⟨r4, c4, k4, l4, e4⟩ := draw_nat (n := 10) k1 (by omega) (by decide)
  by_cases h0 : r1 = 0
  · subst h0
    refine ⟨c2, r2, k2, by omega, ?_⟩
    simp at e1 e2
    simp [ff_law_size, fDef_eq, fb_law_size, late, e1, e2]
  · have hr : ¬ (r1 : Int) = 0 := by omega
    by_cases h2 : r1 % 2 = 0
    · have h2' : (r1 : Int) % 2 = 0 := by omega
      refine ⟨c3, r3, k3, by omega, ?_⟩
      simp at e1 e3
      simp [ff_law_size, fDef_eq, fb_law_size, late, e1, e3, hr, h0, h2']
    · have h2' : ¬ (r1 : Int) % 2 = 0 := by omega
      refine ⟨c4, r4, k4, by omega, ?_⟩
      simp at e1 e4
      simp [ff_law_size, fDef_eq, fb_law_size, late, e1, e4, hr, h0, h2']
end Once

/-! PT3: parts of trees. -/
namespace Once
open PySem PySem.Spec L2 OD F
/-- the part at a place -/
def Tr.at : Tr → Nat → Option Tr
  | t, 0 => some t
  | .us _, _ + 1 => none
  | .tk _ b, p + 1 => b.at p
  | .gv l r, p + 1 => if p < l.size then l.at p else r.at (p - l.size)
theorem Tr.at_zero (t : Tr) : t.at 0 = some t := by cases t <;> rfl
theorem Tr.at_some (t : Tr) : ∀ p, p < t.size → ∃ s, t.at p = some s := by
  induction t with
  | us n =>
    intro p h
    have : p = 0 := by simp [Tr.size] at h; omega
    subst this
    exact ⟨_, rfl⟩
  | tk n b ih =>
    intro p h
    cases p with
    | zero => exact ⟨_, rfl⟩
    | succ p => exact ih p (by simp [Tr.size] at h; omega)
  | gv l r ihl ihr =>
    intro p h
    cases p with
    | zero => exact ⟨_, rfl⟩
    | succ p =>
      simp only [Tr.size] at h
      unfold Tr.at
      by_cases hp : p < l.size
      · rw [if_pos hp]; exact ihl p hp
      · rw [if_neg hp]; exact ihr (p - l.size) (by omega)
theorem Tr.at_pre (t : Tr) : ∀ (p : Nat) (s : Tr), t.at p = some s → ∃ A q, t.pre = A ++ (s.pre ++ q) ∧ A.length = p ∧ ∀ o, (t.ends o)[p]? = some (o + p + s.size) ∧ ((t.ends o).drop p).take s.size = s.ends (o + p) := by
  induction t with
  | us n =>
    intro p s h
    cases p with
    | zero => cases h; exact ⟨[], [], by simp, rfl, fun o => ⟨by simp [Tr.ends, Tr.size], by simp [Tr.ends, Tr.size]⟩⟩
    | succ p => cases h
  | tk n b ih =>
    intro p s h
    cases p with
    | zero => cases h; exact ⟨[], [], by simp, rfl, fun o => ⟨by simp [Tr.ends, Tr.size], by rw [List.drop_zero, List.take_of_length_le (by rw [Tr.ends_len]; exact Nat.le_refl _), Nat.add_zero]⟩⟩
    | succ p =>
      obtain ⟨A, q, h1, h2, h3⟩ := ih p s h
      refine ⟨.tk n :: A, q, by simp [Tr.pre, h1], by simp [h2], fun o => ?_⟩
      obtain ⟨h4, h5⟩ := h3 (o + 1)
      rw [show o + (p + 1) = o + 1 + p by omega]
      exact ⟨by simpa [Tr.ends] using h4, by simpa [Tr.ends] using h5⟩
  | gv l r ihl ihr =>
    intro p s h
    cases p with
    | zero => cases h; exact ⟨[], [], by simp, rfl, fun o => ⟨by simp [Tr.ends, Tr.size], by rw [List.drop_zero, List.take_of_length_le (by rw [Tr.ends_len]; exact Nat.le_refl _), Nat.add_zero]⟩⟩
    | succ p =>
      unfold Tr.at at h
      by_cases hp : p < l.size
      · rw [if_pos hp] at h
        obtain ⟨A, q, h1, h2, h3⟩ := ihl p s h
        refine ⟨.gv :: A, q ++ r.pre, by simp [Tr.pre, h1], by simp [h2], fun o => ?_⟩
        obtain ⟨h4, h5⟩ := h3 (o + 1)
        have hs : p + s.size ≤ l.size := by
          have := congrArg List.length h1
          simp [Tr.pre_len, h2] at this
          omega
        rw [show o + (p + 1) = o + 1 + p by omega]
        refine ⟨?_, ?_⟩
        · simp only [Tr.ends, List.getElem?_cons_succ]
          rw [List.getElem?_append_left (by rw [Tr.ends_len]; exact hp), h4]
        · simp only [Tr.ends, List.drop_succ_cons]
          rw [List.drop_append_of_le_length (by rw [Tr.ends_len]; omega), List.take_append_of_le_length (by rw [List.length_drop, Tr.ends_len]; omega), h5]
      · rw [if_neg hp] at h
        obtain ⟨A, q, h1, h2, h3⟩ := ihr (p - l.size) s h
        refine ⟨.gv :: (l.pre ++ A), q, by simp [Tr.pre, h1], by simp [h2, Tr.pre_len]; omega, fun o => ?_⟩
        obtain ⟨h4, h5⟩ := h3 (o + 1 + l.size)
        have e : o + 1 + l.size + (p - l.size) = o + (p + 1) := by omega
        rw [e] at h4 h5
        refine ⟨?_, ?_⟩
        · simp only [Tr.ends, List.getElem?_cons_succ]
          rw [List.getElem?_append_right (by rw [Tr.ends_len]; omega), Tr.ends_len, h4]
        · simp only [Tr.ends, List.drop_succ_cons]
          rw [List.drop_append, Tr.ends_len, List.drop_of_length_le (by rw [Tr.ends_len]; omega), List.nil_append, h5]
theorem Tr.at_ok (t : Tr) : ∀ (p : Nat) (s : Tr), t.at p = some s → t.ok → s.ok := by
  induction t with
  | us n => intro p s h ho; cases p <;> cases h; exact ho
  | tk n b ih => intro p s h ho; cases p with
    | zero => cases h; exact ho
    | succ p => exact ih p s h ho.2
  | gv l r ihl ihr =>
    intro p s h ho
    cases p with
    | zero => cases h; exact ho
    | succ p =>
      unfold Tr.at at h
      by_cases hp : p < l.size
      · rw [if_pos hp] at h; exact ihl p s h ho.1
      · rw [if_neg hp] at h; exact ihr _ s h ho.2
theorem Tr.at_cl (t : Tr) : ∀ (p : Nat) (s : Tr), t.at p = some s → t.cl → s.cl := by
  induction t with
  | us n => intro p s h ho; cases p <;> cases h; exact ho
  | tk n b ih => intro p s h ho; cases p with
    | zero => cases h; exact ho
    | succ p => exact ih p s h ho.2
  | gv l r ihl ihr =>
    intro p s h ho
    cases p with
    | zero => cases h; exact ho
    | succ p =>
      unfold Tr.at at h
      by_cases hp : p < l.size
      · rw [if_pos hp] at h; exact ihl p s h ho.1
      · rw [if_neg hp] at h; exact ihr _ s h ho.2
theorem nog_app (a b : List Pw) : nog (a ++ b) = nog a ++ nog b := by unfold nog; rw [List.filter_append]
theorem Good.at {t s : Tr} {p : Nat} (g : Good t) (h : t.at p = some s) : Good s := by
  obtain ⟨A, q, h1, _, _⟩ := t.at_pre p s h
  refine ⟨t.at_ok p s h g.ok, ?_, t.at_cl p s h g.cl⟩
  have := g.nd
  rw [h1, nog_app, nog_app] at this
  exact (List.nodup_append.mp (List.nodup_append.mp this).2.1).1
theorem Tr.at_words {t s : Tr} {p : Nat} (h : t.at p = some s) : (t.pre.drop p).take s.size = s.pre := by
  obtain ⟨A, q, h1, h2, _⟩ := t.at_pre p s h
  rw [h1, ← h2]
  simp [Tr.pre_len]
theorem Tr.at_size {t s : Tr} {p : Nat} (h : t.at p = some s) : p + s.size ≤ t.size := by
  obtain ⟨A, q, h1, h2, _⟩ := t.at_pre p s h
  have := congrArg List.length h1
  simp [Tr.pre_len, h2] at this
  omega
end Once

/-! PT4: names used, taken, open; trees drawn are right. -/
namespace Once
open PySem PySem.Spec L2 OD F
theorem Tr.nog_perm (t : Tr) : List.Perm (nog t.pre) (t.uses.map Pw.us ++ t.takes.map Pw.tk) := by
  induction t with
  | us n => simp [Tr.pre, nog, Tr.uses, Tr.takes]
  | tk n b ih =>
    have e : nog (Tr.tk n b).pre = .tk n :: nog b.pre := by simp [Tr.pre, nog]
    rw [e]
    refine (ih.cons _).trans ?_
    show List.Perm (Pw.tk n :: (b.uses.map Pw.us ++ b.takes.map Pw.tk)) (b.uses.map Pw.us ++ (n :: b.takes).map Pw.tk)
    exact List.perm_middle.symm
  | gv l r ihl ihr =>
    have e : nog (Tr.gv l r).pre = nog l.pre ++ nog r.pre := by simp [Tr.pre, nog]
    rw [e]
    refine (ihl.append ihr).trans ?_
    simp only [Tr.uses, Tr.takes, List.map_append, List.append_assoc]
    refine List.Perm.append_left _ ?_
    rw [← List.append_assoc, ← List.append_assoc]
    exact List.perm_append_comm.append_right _
theorem Tr.uses_len (t : Tr) : t.uses.length = t.gives + 1 := by
  induction t with
  | us n => rfl
  | tk n b ih => simpa [Tr.uses, Tr.gives] using ih
  | gv l r ihl ihr => simp [Tr.uses, Tr.gives, ihl, ihr]; omega
theorem Tr.cl_takes (t : Tr) : t.cl → ∀ n ∈ t.takes, n ∈ t.uses := by
  induction t with
  | us n => intro _ m h; cases h
  | tk n b ih =>
    intro hc m h
    rcases List.mem_cons.mp h with rfl | h
    · exact (b.mem_uses _).mpr hc.1
    · exact ih hc.2 m h
  | gv l r ihl ihr =>
    intro hc m h
    simp only [Tr.takes, Tr.uses, List.mem_append] at h ⊢
    rcases h with h | h
    · exact .inl (ihl hc.1 m h)
    · exact .inr (ihr hc.2 m h)
theorem Tr.mem_takes (t : Tr) (n : List Nat) : n ∈ t.takes ↔ Pw.tk n ∈ t.pre := by
  induction t with
  | us m => simp [Tr.takes, Tr.pre]
  | tk m b ih => simp [Tr.takes, Tr.pre, ih]
  | gv l r ihl ihr => simp [Tr.takes, Tr.pre, ihl, ihr]
theorem Good.nd2 {t : Tr} (g : Good t) : t.uses.Nodup ∧ t.takes.Nodup := by
  have h := (t.nog_perm.nodup_iff).mp g.nd
  have h2 := List.nodup_append.mp h
  refine ⟨?_, ?_⟩
  · exact (List.nodup_iff_pairwise_ne.mpr ((List.pairwise_map.mp (List.nodup_iff_pairwise_ne.mp h2.1)).imp fun h e => h (by rw [e])))
  · exact (List.nodup_iff_pairwise_ne.mpr ((List.pairwise_map.mp (List.nodup_iff_pairwise_ne.mp h2.2.1)).imp fun h e => h (by rw [e])))
theorem nodup_map_inj {α β : Type} {f : α → β} (hf : ∀ a b, f a = f b → a = b) {l : List α} (h : l.Nodup) : (l.map f).Nodup := by
  rw [List.nodup_iff_pairwise_ne, List.pairwise_map]
  exact (List.nodup_iff_pairwise_ne.mp h).imp fun hne e => hne (hf _ _ e)
theorem good_of {t : Tr} (ok : t.ok) (cl : t.cl) (hu : t.uses.Nodup) (ht : t.takes.Nodup) : Good t := by
  refine ⟨ok, (t.nog_perm.nodup_iff).mpr ?_, cl⟩
  refine List.nodup_append.mpr ⟨nodup_map_inj (fun a b e => by cases e; rfl) hu, nodup_map_inj (fun a b e => by cases e; rfl) ht, ?_⟩
  intro a ha b hb e
  obtain ⟨x, _, rfl⟩ := List.mem_map.mp ha
  obtain ⟨y, _, rfl⟩ := List.mem_map.mp hb
  cases e
theorem Dw.good {T : Tr} {R N : List (List Nat)} (d : Dw T R N) (h : (R ++ N).Nodup) : Good T :=
  good_of d.ok d.cl (d.us.nodup_iff.mpr h) (d.tk.nodup_iff.mpr (List.nodup_append.mp h).2.1)
/-- the open names, as they stand -/
def Tr.opens (t : Tr) : List (List Nat) := t.uses.filter fun n => decide (n ∉ t.takes)
theorem Dw.opens {T : Tr} {R N : List (List Nat)} (d : Dw T R N) (h : (R ++ N).Nodup) : List.Perm T.opens R := by
  unfold Tr.opens
  refine (d.us.filter _).trans ?_
  rw [List.filter_append]
  have h1 : R.filter (fun n => decide (n ∉ T.takes)) = R := by
    refine List.filter_eq_self.mpr fun n hn => ?_
    have : n ∉ T.takes := fun z => (List.nodup_append.mp h).2.2 n hn n (d.tk.mem_iff.mp z) rfl
    simpa using this
  have h2 : N.filter (fun n => decide (n ∉ T.takes)) = [] := by
    refine List.filter_eq_nil_iff.mpr fun n hn => ?_
    have : n ∈ T.takes := d.tk.mem_iff.mpr hn
    simpa using this
  rw [h1, h2, List.append_nil]
/-- the words that are used, not taken -/
def opn (ws : List Pw) : List Pw := ws.filter fun w => match w with
  | .us n => decide (Pw.tk n ∉ ws)
  | _ => false
theorem opn_opens (t : Tr) : opn t.pre = t.opens.map Pw.us := by
  have key : ∀ (s : Tr) (P : List Nat → Bool), (s.pre.filter fun w => match w with | .us n => P n | _ => false) = (s.uses.filter P).map Pw.us := by
    intro s P
    induction s with
    | us n => by_cases h : P n <;> simp [Tr.pre, Tr.uses, h]
    | tk n b ih => simpa [Tr.pre, Tr.uses] using ih
    | gv l r ihl ihr => simpa [Tr.pre, Tr.uses, ihl] using ihr
  unfold opn Tr.opens
  rw [key t fun n => decide (Pw.tk n ∉ t.pre)]
  congr 2
  funext n
  congr 1
  rw [Tr.mem_takes]
theorem ar2 : Pw.gv.ar = 2 := rfl
theorem ar1 (n : List Nat) : (Pw.tk n).ar = 1 := rfl
theorem ar0 (n : List Nat) : (Pw.us n).ar = 0 := rfl
theorem Tr.cnt_gives (t : Tr) : (t.pre.filter fun w => decide (w.ar = 2)).length = t.gives := by
  induction t with
  | us n => simp [Tr.pre, ar2, ar1, ar0, Tr.gives]
  | tk n b ih => simpa [Tr.pre, ar2, ar1, ar0, Tr.gives] using ih
  | gv l r ihl ihr => simp [Tr.pre, ar2, ar1, ar0, Tr.gives, ihl, ihr]
theorem Tr.cnt_takes (t : Tr) : (t.pre.filter fun w => decide (w.ar = 1)).length = t.takes.length := by
  induction t with
  | us n => simp [Tr.pre, ar2, ar1, ar0, Tr.takes]
  | tk n b ih => simp [Tr.pre, ar2, ar1, ar0, Tr.takes, ih]
  | gv l r ihl ihr => simp [Tr.pre, ar2, ar1, ar0, Tr.takes, ihl, ihr]
/-- a closed program takes one name more than it gives -/
theorem Good.closed {t : Tr} (g : Good t) (h : t.opens = []) : t.takes.length = t.gives + 1 := by
  rw [← t.uses_len]
  have h1 : ∀ n ∈ t.uses, n ∈ t.takes := fun n hn => by
    by_cases hm : n ∈ t.takes
    · exact hm
    · have : n ∈ t.opens := List.mem_filter.mpr ⟨hn, by simpa using hm⟩
      rw [h] at this; cases this
  have a := nodup_le t.uses t.takes g.nd2.1 h1
  have b := nodup_le t.takes t.uses g.nd2.2 (t.cl_takes g.cl)
  omega
end Once

/-! FP20: _law_program. -/
namespace Once
open PySem PySem.Spec L2 OD F
theorem law_program_eq {c : PotC} {m k : Nat} (hc : c.ss ≠ []) (hm : m ≤ 1000) (hk : k < 800) :
    ∃ (c' : PotC) (R N : List (List Nat)) (T : Tr), c'.ss ≠ [] ∧ (R ++ N).Nodup ∧ (∀ n ∈ R ++ N, okn n) ∧ Dw T R N ∧ T.size + R.length = 3 * T.gives + 2 ∧ T.gives ≤ max m 9 ∧ R.length ≤ k ∧
      ff_law_program [.pot c, .im (.int (m : Nat)), .im (.int (k : Nat))] = .ok (.im (pws T.pre)) [.pot c', .im (.int (m : Nat)), .im (.int (k : Nat))] := by
  obtain ⟨c1, g, k1, l1, e1⟩ := law_size_eq hc (m := m) (by omega)
  obtain ⟨r2, c2, k2, l2, e2⟩ := draw_nat (n := k + 1) k1 (by omega) (Nat.lt_of_le_of_lt (by omega : _ ≤ 100000) (by decide))
  obtain ⟨m2, hm2⟩ : ∃ m2, m2 = min r2 (g + 1) := ⟨_, rfl⟩
  have hl : (rgL 0 1 m2).length = m2 := by simp [rgL]
  obtain ⟨s', e3, c3, us, x, k3, l3, nd3, ok3, rfl⟩ := forL_inv (tg := gName 5) (body := fb_law_program_1) (xs := rgL 0 1 m2) (s := [some (.pot c2), some (.im (.int (m : Nat))), some (.im (.int (k : Nat))), some (.im (.int (g : Nat))), some (.lst (nms [])), none])
    (fun j s => ∃ (c' : PotC) (us : List (List Nat)) (x : Option Sv), c'.ss ≠ [] ∧ us.length = j ∧ us.Nodup ∧ (∀ n ∈ us, okn n) ∧ s = [some (.pot c'), some (.im (.int (m : Nat))), some (.im (.int (k : Nat))), some (.im (.int (g : Nat))), some (.lst (nms us)), x])
    ⟨c2, [], none, k2, rfl, List.nodup_nil, fun n h => (nomatch h), rfl⟩ fun j hj s w => by
      obtain ⟨c', us, x, a1, a2, a3, a4, rfl⟩ := w
      rw [hl] at hj
      obtain ⟨c4, n, b1, b2, b3, e⟩ := law_fresh_eq (us := us) a1 (by omega)
      refine ⟨[some (.pot c'), some (.im (.int (m : Nat))), some (.im (.int (k : Nat))), some (.im (.int (g : Nat))), some (.lst (nms us)), some (.im ((rgL 0 1 m2)[j]'(by rw [hl]; exact hj)))], [some (.pot c4), some (.im (.int (m : Nat))), some (.im (.int (k : Nat))), some (.im (.int (g : Nat))), some (.lst (nms (us ++ [n]))), some (.im ((rgL 0 1 m2)[j]'(by rw [hl]; exact hj)))], by simp, ?_, c4, us ++ [n], _, b1, by simp [a2], ?_, ?_, rfl⟩
      · simp [fb_law_program_1, late, e]
      · refine List.nodup_append.mpr ⟨a3, by simp, fun a ha b hb z => ?_⟩
        rw [List.mem_singleton.mp hb] at z
        exact b3 (z ▸ ha)
      · intro q hq
        rcases List.mem_append.mp hq with hq | hq
        · exact a4 q hq
        · rw [List.mem_singleton.mp hq]; exact b2
  rw [hl] at l3
  obtain ⟨c5, N, T, k5, nd5, ok5, d5, sz5, gv5, e5⟩ := law_words_eq (c := c3) (R := us) (us := us) (g := g) k3 (by omega) (by omega) ok3 (by omega)
  refine ⟨c5, us, N, T, k5, ?_, ?_, d5, by omega, by omega, by omega, ?_⟩
  · refine List.nodup_append.mpr ⟨nd3, nd5, fun a ha b hb z => ?_⟩
    exact (ok5 b hb).2 (z ▸ ha)
  · intro n hn
    rcases List.mem_append.mp hn with hn | hn
    · exact ok3 n hn
    · exact (ok5 n hn).1
  have h1 : min (r2 : Int) ((g : Int) + 1) = (m2 : Int) := by omega
  have h2 : (m2 : Int) < 4611686018427387904 := by omega
  have h3 : -4611686018427387904 ≤ (m2 : Int) := by omega
  have h4 : (if (g : Int) + 1 < r2 then (g : Int) + 1 else r2) = (m2 : Int) := by split <;> omega
  have h5 : us.length ≤ 16777216 := by omega
  simp at e1 e2 e3
  simp [nms] at e3
  simp [nms] at e5
  simp [ff_law_program, fDef_eq, fb_law_program, late, e1, e2, h4, h2, h3, nms_len, e3, h5, e5]
end Once

/-! FP21: dicts of taken names; open names. -/
namespace Once
open PySem PySem.Spec L2 OD F
/-- the taken names, as they stand -/
def tkN : List Pw → List (List Nat)
  | [] => []
  | .tk n :: r => n :: tkN r
  | .gv :: r => tkN r
  | .us _ :: r => tkN r
/-- .. and where -/
def tkK : Nat → List Pw → List (Key × D)
  | _, [] => []
  | p, .tk n :: r => (Sum.inr (mkS n), .int (p : Nat)) :: tkK (p + 1) r
  | p, .gv :: r => tkK (p + 1) r
  | p, .us _ :: r => tkK (p + 1) r
theorem tkN_app (a b : List Pw) : tkN (a ++ b) = tkN a ++ tkN b := by
  induction a with
  | nil => rfl
  | cons w r ih => cases w <;> simp [tkN, ih]
theorem tkN_pre (t : Tr) : tkN t.pre = t.takes := by
  induction t with
  | us n => rfl
  | tk n b ih => simp [Tr.pre, tkN, Tr.takes, ih]
  | gv l r ihl ihr => simp [Tr.pre, tkN, Tr.takes, tkN_app, ihl, ihr]
theorem mem_tkN (ws : List Pw) (n : List Nat) : n ∈ tkN ws ↔ Pw.tk n ∈ ws := by
  induction ws with
  | nil => simp [tkN]
  | cons w r ih => cases w <;> simp [tkN, ih]
theorem tkK_keys : ∀ (ws : List Pw) (p : Nat), (tkK p ws).map (·.1) = (tkN ws).map fun n => (Sum.inr (mkS n) : Key) := by
  intro ws
  induction ws with
  | nil => intro p; rfl
  | cons w r ih => intro p; cases w <;> simp [tkK, tkN, ih]
theorem key_inj (a b : List Nat) (h : (Sum.inr (mkS a) : Key) = Sum.inr (mkS b)) : a = b := mkS_inj.mp (by injection h)
theorem tkK_nodup {ws : List Pw} (h : (tkN ws).Nodup) (p : Nat) : ((tkK p ws).map (·.1)).Nodup := by
  rw [tkK_keys]
  exact nodup_map_inj key_inj h
theorem tkK_mem : ∀ (ws : List Pw) (p q : Nat) (n : List Nat), ws[q]? = some (.tk n) → (Sum.inr (mkS n), D.int ((p + q : Nat) : Int)) ∈ tkK p ws := by
  intro ws
  induction ws with
  | nil => intro p q n h; simp at h
  | cons w r ih =>
    intro p q n h
    cases q with
    | zero =>
      simp at h
      subst h
      simp [tkK]
    | succ q =>
      have := ih (p + 1) q n (by simpa using h)
      rw [show p + 1 + q = p + (q + 1) by omega] at this
      cases w <;> simp only [tkK]
      · exact this
      · exact List.mem_cons_of_mem _ this
      · exact this
theorem lookD_is {kvs : List (Key × D)} {k : Key} : (lookD kvs k).isSome = true ↔ k ∈ kvs.map (·.1) := by
  unfold lookD
  induction kvs with
  | nil => simp
  | cons p r ih =>
    by_cases h : p.1 = k
    · simp [List.find?_cons, h]
    · have h' : ¬ k = p.1 := fun z => h z.symm
      simp [List.find?_cons, h, h'] at ih ⊢
/-- a dict whose keys are names -/
theorem in_names {kvs : List (Key × D)} {ns : List (List Nat)} (h : kvs.map (·.1) = ns.map fun n => (Sum.inr (mkS n) : Key)) (n : List Nat) : inW (.str (mkS n)) (.dic kvs) = some (decide (n ∈ ns)) := by
  show some (lookD kvs (Sum.inr (mkS n))).isSome = _
  congr 1
  rw [Bool.eq_iff_iff, lookD_is, h, decide_eq_true_iff]
  simp only [List.mem_map]
  constructor
  · rintro ⟨m, hm, e⟩
    rw [← key_inj m n e]; exact hm
  · exact fun hm => ⟨n, hm, rfl⟩
theorem taken_loop (W : List Pw) : ∀ (r : List Pw) (p : Nat) (acc : List (Key × D)) (x y : Option Sv), (∀ w ∈ r, w.ok) → ((acc ++ tkK p r).map (·.1)).Nodup → (x = none ∨ ∃ d, x = some (.im d)) → (y = none ∨ ∃ d, y = some (.im d)) → acc.length + r.length < 10000 →
    ∃ x' y', (x' = none ∨ ∃ d, x' = some (.im d)) ∧ (y' = none ∨ ∃ d, y' = some (.im d)) ∧
      dcL [1, 2] tg12 (fTru (oE (fCall 1 ff_is_take (rO 2 rNil)))) (fCall 1 ff_name_of (rO 2 rNil)) (fVar 1) (enumP p (r.map pw)) [some (.im (pws W)), x, y] acc = .ok (acc ++ tkK p r) [some (.im (pws W)), x', y'] := by
  intro r
  induction r with
  | nil => intro p acc x y _ _ hx hy _; exact ⟨x, y, hx, hy, by simp [dcL, tkK]⟩
  | cons w r ih =>
    intro p acc x y hok hnd hx hy hl
    have hw : w.ok := hok w (by simp)
    have h2 := is_take_eq hw
    have h3 := name_of_eq hw
    rw [List.length_cons] at hl
    have hk : acc.length < 16777216 := by omega
    cases w with
    | gv =>
      obtain ⟨x', y', g1, g2, e⟩ := ih (p + 1) acc (some (.im (.int (p : Nat)))) (some (.im (pw .gv))) (fun z hz => hok z (by simp [hz])) (by simpa [tkK] using hnd) (.inr ⟨_, rfl⟩) (.inr ⟨_, rfl⟩) (by omega)
      refine ⟨x', y', g1, g2, ?_⟩
      unfold dcL
      simp [late, h2, Pw.ar, tkK] at e ⊢
      exact e
    | us n =>
      obtain ⟨x', y', g1, g2, e⟩ := ih (p + 1) acc (some (.im (.int (p : Nat)))) (some (.im (pw (.us n)))) (fun z hz => hok z (by simp [hz])) (by simpa [tkK] using hnd) (.inr ⟨_, rfl⟩) (.inr ⟨_, rfl⟩) (by omega)
      refine ⟨x', y', g1, g2, ?_⟩
      unfold dcL
      simp [late, h2, Pw.ar, tkK] at e ⊢
      exact e
    | tk n =>
      obtain ⟨x', y', g1, g2, e⟩ := ih (p + 1) (acc ++ [(Sum.inr (mkS n), .int (p : Nat))]) (some (.im (.int (p : Nat)))) (some (.im (pw (.tk n)))) (fun z hz => hok z (by simp [hz])) (by simpa [tkK] using hnd) (.inr ⟨_, rfl⟩) (.inr ⟨_, rfl⟩) (by simp; omega)
      refine ⟨x', y', g1, g2, ?_⟩
      have hno : (Sum.inr (mkS n) : Key) ∉ acc.map (·.1) := by
        intro z
        rw [List.map_append, List.nodup_append] at hnd
        exact hnd.2.2 _ z _ (by simp [tkK]) rfl
      have hp := putD_no (v := .int (p : Nat)) hno
      unfold dcL
      simp [late, h2, h3, Pw.ar, tkK] at e ⊢
      simp [pw, keyD, hp, hk] at e ⊢
      exact e
theorem Good.tkn {t : Tr} (g : Good t) : (tkN t.pre).Nodup := by rw [tkN_pre]; exact g.nd2.2
theorem taken_eq {t : Tr} (g : Good t) (hl : t.size < 9000) : ff_taken [.im (pws t.pre)] = .ok (.im (.dic (tkK 0 t.pre))) [.im (pws t.pre)] := by
  obtain ⟨x, y, g1, g2, e⟩ := taken_loop t.pre t.pre 0 [] none none (fun w hw => g.ok_mem' w hw) (by simpa using tkK_nodup g.tkn 0) (.inl rfl) (.inl rfl) (by rw [t.pre_len]; simp; omega)
  unfold pws at e
  simp at e
  simp [ff_taken, fDef_eq, fb_taken, late, pws, enumL_P, e]
/-! the law's tests of words -/
theorem t_at {s : Sl} {i : Nat} {w : Pw} (n : Bool) (h : s[i]? = some (some (.im (pw w)))) (hw : w.ok) : fTest (fOp (eqF n) (oV i) (oE (fC (.str "@")))) s = .ok (xorB n (decide (w.ar = 2))) s := by
  cases w with
  | gv => simp [h, pw, s_at, Pw.ar]
  | tk m => simp [h, pw, s_at, mkS_inj, Pw.ar]
  | us m => simp [h, pw, s_at, mkS_inj, okn_at hw, Pw.ar]
theorem ok_ns {m : List Nat} (h : okn m) : m.take 1 ≠ [47] := by
  intro e
  cases m with
  | nil => cases e
  | cons c r =>
    have := h.2.2 c (by simp)
    simp at e
    omega
theorem t_sl {s : Sl} {i : Nat} {w : Pw} (n : Bool) (h : s[i]? = some (some (.im (pw w)))) (hw : w.ok) : fTest (fOp (eqF n) (oE (fSl (oV i) pNo (pSo (fC (.int 1))))) (oE (fC (.str "/")))) s = .ok (xorB n (decide (w.ar = 1))) s := by
  cases w with
  | gv => simp [h, pw, s_sl, Pw.ar, cutS_mk, cutL_1, mkS_inj]
  | tk m =>
    have : m.length + 1 ≤ 16777216 := by have := hw.2.1; omega
    simp [h, pw, s_sl, Pw.ar, cutS_mk, cutL_1, mkS_inj, this]
  | us m =>
    have : m.length ≤ 16777216 := by have := hw.2.1; omega
    simp [h, pw, s_sl, Pw.ar, cutS_mk, cutL_1, mkS_inj, this, ok_ns hw]
theorem tkK_app (a b : List Pw) : ∀ p, tkK p (a ++ b) = tkK p a ++ tkK (p + a.length) b := by
  induction a with
  | nil => intro p; simp [tkK]
  | cons w r ih =>
    intro p
    have e : p + 1 + r.length = p + (r.length + 1) := by omega
    cases w <;> simp [tkK, ih, e]
theorem tkK_len (ws : List Pw) : ∀ p, (tkK p ws).length ≤ ws.length := by
  induction ws with
  | nil => intro p; simp [tkK]
  | cons w r ih => intro p; have := ih (p + 1); cases w <;> simp [tkK] <;> omega
theorem tkK_no {p : Nat} {ws : List Pw} {n : List Nat} (h : n ∉ tkN ws) : (Sum.inr (mkS n) : Key) ∉ (tkK p ws).map (·.1) := by
  rw [tkK_keys]
  intro z
  obtain ⟨m, hm, e⟩ := List.mem_map.mp z
  rw [key_inj m n e] at hm
  exact h hm
theorem pl_ws (ws : List Pw) (h : ∀ w ∈ ws, w.ok) : pl 1 (.tup (ws.map pw)) = true := by
  show (ws.map pw).all (pl 0) = true
  rw [List.all_eq_true]
  intro d hd
  obtain ⟨w, hw, rfl⟩ := List.mem_map.mp hd
  have ok := h w hw
  have key : ∀ l : List Nat, (∀ c ∈ l, c < 0x110000) → pl 0 (.str (mkS l)) = true := by
    intro l hl
    show (mkS l).cps.all (· < 0x110000) = true
    rw [← Array.all_toList, mkS_cps, List.all_eq_true]
    exact fun c hc => decide_eq_true (hl c hc)
  cases w with
  | gv => exact key [64] (by simp)
  | tk n =>
    refine key (47 :: n) fun c hc => ?_
    rcases List.mem_cons.mp hc with rfl | hc
    · omega
    · have := ok.2.2 c hc; omega
  | us n =>
    refine key n fun c hc => ?_
    have := ok.2.2 c hc
    omega
theorem eqW_ws (ws : List Pw) (h : ∀ w ∈ ws, w.ok) : eqW (.tup (ws.map pw)) (.tup (ws.map pw)) = some true := eqW_same 1 (by decide) (pl_ws ws h)
/-- a test of the word at a place -/
theorem t_slx {s : Sl} {i j p : Nat} {w : Pw} {ws : List Pw} (h : s[i]? = some (some (.im (pws ws)))) (hj : s[j]? = some (some (.im (.int (p : Nat))))) (hp : ws[p]? = some w) (hw : w.ok) : fTest (fOp (eqF false) (oE (fSl (oE (fOp ixF (oV i) (oV j))) pNo (pSo (fC (.int 1))))) (oE (fC (.str "/")))) s = .ok (decide (w.ar = 1)) s := by
  have h1 := pw_ix hp
  unfold pws at h
  cases w with
  | gv => simp [h, hj, h1, pw, s_sl, Pw.ar, cutS_mk, cutL_1, mkS_inj]
  | tk m =>
    have : m.length + 1 ≤ 16777216 := by have := hw.2.1; omega
    simp [h, hj, h1, pw, s_sl, Pw.ar, cutS_mk, cutL_1, mkS_inj, this]
  | us m =>
    have : m.length ≤ 16777216 := by have := hw.2.1; omega
    simp [h, hj, h1, pw, s_sl, Pw.ar, cutS_mk, cutL_1, mkS_inj, this, ok_ns hw]
end Once

/-! FP22: open names, by the program and by the law. -/
namespace Once
open PySem PySem.Spec L2 OD F
def opP (ws : List Pw) (w : Pw) : Bool := match w with
  | .us n => decide (Pw.tk n ∉ ws)
  | _ => false
theorem opn_P (ws : List Pw) : opn ws = ws.filter (opP ws) := rfl
theorem fil_len {α : Type} (p : α → Bool) (ws : List α) (n : Nat) (h : ws.length ≤ n) : (ws.filter p).length ≤ n := Nat.le_trans (List.length_filter_le _ _) h
theorem raw_open_eq {t : Tr} (g : Good t) (hl : t.size < 9000) : ff_raw_open [.im (pws t.pre)] = .ok (.im (.tup ((opn t.pre).map pw))) [.im (pws t.pre)] := by
  have h1 := taken_eq g hl
  have hT : ∀ w : Pw, w.ok → (fAnd (fNot (fTru (oE (fCall 1 ff_is_give (rO 2 rNil))))) (fAnd (fNot (fTru (oE (fCall 1 ff_is_take (rO 2 rNil))))) (fTest (fOp (inF true) (oV 2) (oV 1))))) [some (.im (pws t.pre)), some (.im (.dic (tkK 0 t.pre))), some (.im (pw w))] = .ok (opP t.pre w) [some (.im (pws t.pre)), some (.im (.dic (tkK 0 t.pre))), some (.im (pw w))] := by
    intro w hw
    have a1 := is_give_eq hw
    have a2 := is_take_eq hw
    cases w with
    | gv => simp [late, a1, opP]
    | tk n => simp [late, a1, a2, opP, Pw.ar]
    | us n =>
      have a3 := in_names (tkK_keys t.pre 0) n
      simp only [mem_tkN] at a3
      simp [late, a1, a2, opP, Pw.ar]
      simp [pw, a3]
  obtain ⟨x', hx, e⟩ := count_loop (i := 2) (p := opP t.pre) (T := (fAnd (fNot (fTru (oE (fCall 1 ff_is_give (rO 2 rNil))))) (fAnd (fNot (fTru (oE (fCall 1 ff_is_take (rO 2 rNil))))) (fTest (fOp (inF true) (oV 2) (oV 1)))))) (fun x => [some (.im (pws t.pre)), some (.im (.dic (tkK 0 t.pre))), x]) (fun x => rfl) (fun x d => rfl) hT (fun w => by simp) t.pre [] none (fun w hw => g.ok_mem' w hw) (by rw [t.pre_len]; simp; omega)
  have h3 := fil_len (opP t.pre) t.pre 16777216 (by rw [t.pre_len]; omega)
  unfold pws at e h1
  simp at e
  simp [ff_raw_open, fDef_eq, fb_raw_open, late, pws, h1, e, h3, opn_P]
/-- the law's dict of taken names -/
def tkT (ws : List Pw) : List (Key × D) := (tkN ws).map fun n => (Sum.inr (mkS n), D.bl true)
theorem tkT_keys (ws : List Pw) : (tkT ws).map (·.1) = (tkN ws).map fun n => (Sum.inr (mkS n) : Key) := by
  unfold tkT
  rw [List.map_map]
  rfl
theorem law_open_loop (W : List Pw) : ∀ (r pre : List Pw) (x : Option Sv), (∀ w ∈ r, w.ok) → (tkN (pre ++ r)).Nodup → (pre ++ r).length < 9000 →
    ∃ x', (x' = x ∨ ∃ d, x' = some (.im d)) ∧ forL (gName 2) fb_law_open_1 (r.map pw) [some (.im (pws W)), some (.dic (tkT pre)), x] = .nx [some (.im (pws W)), some (.dic (tkT (pre ++ r))), x'] := by
  intro r
  induction r with
  | nil => intro pre x _ _ _; exact ⟨x, .inl rfl, by simp⟩
  | cons w r ih =>
    intro pre x hok hnd hl
    have hw : w.ok := hok w (by simp)
    have ea : pre ++ w :: r = pre ++ [w] ++ r := by simp
    obtain ⟨x', hx, e⟩ := ih (pre ++ [w]) (some (.im (pw w))) (fun z hz => hok z (by simp [hz])) (by rw [← ea]; exact hnd) (by rw [← ea]; exact hl)
    refine ⟨x', ?_, ?_⟩
    · rcases hx with rfl | hx
      · exact .inr ⟨_, rfl⟩
      · exact .inr hx
    rw [List.map_cons, forL_step (s1 := [some (.im (pws W)), some (.dic (tkT pre)), some (.im (pw w))]) (s2 := [some (.im (pws W)), some (.dic (tkT (pre ++ [w]))), some (.im (pw w))]) (by simp) ?_, ea]
    · exact e
    · have a := t_sl (s := [some (.im (pws W)), some (.dic (tkT pre)), some (.im (pw w))]) (i := 2) false rfl hw
      simp only [fb_law_open_1, fIfS, a]
      cases w with
      | gv => simp [Pw.ar, tkT, tkN_app, tkN]
      | us n => simp [Pw.ar, tkT, tkN_app, tkN]
      | tk n =>
        have hn : n ∉ tkN pre := by
          rw [tkN_app] at hnd
          intro z
          exact (List.nodup_append.mp hnd).2.2 n z n (by simp [tkN]) rfl
        have hk : (Sum.inr (mkS n) : Key) ∉ (tkT pre).map (·.1) := by
          rw [tkT_keys]
          intro z
          obtain ⟨m, hm, e⟩ := List.mem_map.mp z
          rw [key_inj m n e] at hm
          exact hn hm
        have hp := putD_no (v := .bl true) hk
        have hs : (tkT pre).length < 16777216 := by
          have : (tkN pre).length ≤ pre.length := by
            clear e hp hk hn hnd ea a hl
            induction pre with
            | nil => simp [tkN]
            | cons v r ih => cases v <;> simp [tkN] <;> omega
          unfold tkT
          rw [List.length_map]
          simp at hl
          omega
        have hn' : n.length + 1 ≤ 16777216 := by have := hw.2.1; omega
        have hs2 : tkT (pre ++ [.tk n]) = tkT pre ++ [(Sum.inr (mkS n), .bl true)] := by simp [tkT, tkN_app, tkN]
        rw [hs2]
        simp [Pw.ar, pw, cutS_mk, cutL_r, hn', keyD, hp, hs]
theorem law_open_eq {t : Tr} (g : Good t) (hl : t.size < 9000) : ff_law_open [.im (pws t.pre)] = .ok (.im (.lst ((opn t.pre).map pw))) [.im (pws t.pre)] := by
  obtain ⟨x, hx, e⟩ := law_open_loop t.pre t.pre [] none (fun w hw => g.ok_mem' w hw) (by simpa using g.tkn) (by simp [t.pre_len]; omega)
  have hT : ∀ w : Pw, w.ok → (fAnd (fTest (fOp (eqF true) (oV 2) (oE (fC (.str "@"))))) (fAnd (fTest (fOp (eqF true) (oE (fSl (oV 2) pNo (pSo (fC (.int 1))))) (oE (fC (.str "/"))))) (fTest (fOp (inF true) (oV 2) (oV 1))))) [some (.im (pws t.pre)), some (.dic (tkT t.pre)), some (.im (pw w))] = .ok (opP t.pre w) [some (.im (pws t.pre)), some (.dic (tkT t.pre)), some (.im (pw w))] := by
    intro w hw
    have a1 := t_at (s := [some (.im (pws t.pre)), some (.dic (tkT t.pre)), some (.im (pw w))]) (i := 2) true rfl hw
    have a2 := t_sl (s := [some (.im (pws t.pre)), some (.dic (tkT t.pre)), some (.im (pw w))]) (i := 2) true rfl hw
    unfold fAnd
    rw [a1]
    cases w with
    | gv => simp [opP, Pw.ar]
    | tk n => rw [ok_bind, if_pos (by simp [Pw.ar]), a2]; simp [opP, Pw.ar]
    | us n =>
      rw [ok_bind, if_pos (by simp [Pw.ar]), a2]
      have a3 := in_names (tkT_keys t.pre) n
      simp only [mem_tkN] at a3
      simp [opP, Pw.ar, pw, a3]
  obtain ⟨x', hx', e2⟩ := count_loop (i := 2) (p := opP t.pre) (T := (fAnd (fTest (fOp (eqF true) (oV 2) (oE (fC (.str "@"))))) (fAnd (fTest (fOp (eqF true) (oE (fSl (oV 2) pNo (pSo (fC (.int 1))))) (oE (fC (.str "/"))))) (fTest (fOp (inF true) (oV 2) (oV 1)))))) (fun x => [some (.im (pws t.pre)), some (.dic (tkT t.pre)), x]) (fun x => rfl) (fun x d => rfl) hT (fun w => by simp) t.pre [] x (fun w hw => g.ok_mem' w hw) (by rw [t.pre_len]; simp; omega)
  have h3 := fil_len (opP t.pre) t.pre 16777216 (by rw [t.pre_len]; omega)
  have e0 : tkT [] = [] := rfl
  rw [e0] at e
  unfold pws at e e2
  simp only [List.nil_append] at e e2
  have hf : ∀ z : Option Sv, (z = none ∨ ∃ d, z = some (.im d)) → free [some (.im (.tup (t.pre.map pw))), some (.dic (tkT t.pre)), z] 2 = true := by
    rintro z (rfl | ⟨d, rfl⟩) <;> rfl
  have hf2 := hf x hx
  simp [ff_law_open, fDef_eq, fb_law_open, late, pws, opn_P] at *
  simp [e, e2, hf2, h3]
end Once

/-! PA: names told anew, standard names, programs put in, plainly; words of any letters. -/
namespace Once
open PySem PySem.Spec L2 OD F
/-- words of any letters -/
def Pw.wk : Pw → Prop
  | .gv => True
  | .tk n => n.length ≤ 1000
  | .us n => n ≠ [64] ∧ n.take 1 ≠ [47] ∧ n.length ≤ 1000
theorem okn_sl {n : List Nat} (h : okn n) : n.take 1 ≠ [47] := by
  intro e
  cases n with
  | nil => cases e
  | cons c r =>
    have := h.2.2 c (by simp)
    simp at e
    omega
theorem Pw.ok.wk {w : Pw} (h : w.ok) : w.wk := by
  cases w with
  | gv => trivial
  | tk n => have := h.2.1; show n.length ≤ 1000; omega
  | us n => have := h.2.1; exact ⟨okn_at h, okn_sl h, by omega⟩
/-- a program in words of any letters -/
structure GW (t : Tr) : Prop where
  wk : ∀ w ∈ t.pre, w.wk
  un : t.uses.Nodup
  tn : t.takes.Nodup
  cl : t.cl
theorem Good.gw {t : Tr} (g : Good t) : GW t := ⟨fun w hw => (g.ok_mem' w hw).wk, g.nd2.1, g.nd2.2, g.cl⟩
theorem uses_okn {t : Tr} (g : Good t) {n : List Nat} (h : n ∈ t.uses) : okn n := g.ok_mem' (.us n) ((t.mem_uses n).mp h)
def Pw.ren (f : List Nat → List Nat) : Pw → Pw
  | .gv => .gv
  | .tk n => .tk (f n)
  | .us n => .us (f n)
def Tr.ren (f : List Nat → List Nat) : Tr → Tr
  | .us n => .us (f n)
  | .tk n b => .tk (f n) (b.ren f)
  | .gv l r => .gv (l.ren f) (r.ren f)
theorem ren_pre (f : List Nat → List Nat) (t : Tr) : (t.ren f).pre = t.pre.map (Pw.ren f) := by
  induction t with
  | us n => rfl
  | tk n b ih => simp [Tr.ren, Tr.pre, ih, Pw.ren]
  | gv l r ihl ihr => simp [Tr.ren, Tr.pre, ihl, ihr, Pw.ren]
theorem ren_size (f : List Nat → List Nat) (t : Tr) : (t.ren f).size = t.size := by
  induction t with
  | us n => rfl
  | tk n b ih => simp [Tr.ren, Tr.size, ih]
  | gv l r ihl ihr => simp [Tr.ren, Tr.size, ihl, ihr]
theorem ren_uses (f : List Nat → List Nat) (t : Tr) : (t.ren f).uses = t.uses.map f := by
  induction t with
  | us n => rfl
  | tk n b ih => simpa [Tr.ren, Tr.uses] using ih
  | gv l r ihl ihr => simp [Tr.ren, Tr.uses, ihl, ihr]
theorem ren_takes (f : List Nat → List Nat) (t : Tr) : (t.ren f).takes = t.takes.map f := by
  induction t with
  | us n => rfl
  | tk n b ih => simp [Tr.ren, Tr.takes, ih]
  | gv l r ihl ihr => simp [Tr.ren, Tr.takes, ihl, ihr]
theorem ren_gives (f : List Nat → List Nat) (t : Tr) : (t.ren f).gives = t.gives := by
  induction t with
  | us n => rfl
  | tk n b ih => simpa [Tr.ren, Tr.gives] using ih
  | gv l r ihl ihr => simp [Tr.ren, Tr.gives, ihl, ihr]
theorem ren_cong {f g : List Nat → List Nat} : ∀ t : Tr, (∀ n ∈ t.uses, f n = g n) → (∀ n ∈ t.takes, f n = g n) → t.ren f = t.ren g := by
  intro t
  induction t with
  | us n => intro h _; simp [Tr.ren, h n (by simp [Tr.uses])]
  | tk n b ih =>
    intro h1 h2
    simp only [Tr.ren]
    rw [h2 n (by simp [Tr.takes]), ih (fun m hm => h1 m hm) fun m hm => h2 m (by simp [Tr.takes, hm])]
  | gv l r ihl ihr =>
    intro h1 h2
    simp only [Tr.ren]
    rw [ihl (fun m hm => h1 m (by simp [Tr.uses, hm])) fun m hm => h2 m (by simp [Tr.takes, hm]), ihr (fun m hm => h1 m (by simp [Tr.uses, hm])) fun m hm => h2 m (by simp [Tr.takes, hm])]
theorem ren_ren (f g : List Nat → List Nat) (t : Tr) : (t.ren f).ren g = t.ren fun n => g (f n) := by
  induction t with
  | us n => rfl
  | tk n b ih => simp [Tr.ren, ih]
  | gv l r ihl ihr => simp [Tr.ren, ihl, ihr]
theorem ren_id (t : Tr) : (t.ren fun n => n) = t := by
  induction t with
  | us n => rfl
  | tk n b ih => simp [Tr.ren, ih]
  | gv l r ihl ihr => simp [Tr.ren, ihl, ihr]
/-- no two of these names become one -/
def InjOn (f : List Nat → List Nat) (l : List (List Nat)) : Prop := ∀ a ∈ l, ∀ b ∈ l, f a = f b → a = b
theorem InjOn.nodup {f : List Nat → List Nat} : ∀ {l : List (List Nat)}, InjOn f l → l.Nodup → (l.map f).Nodup := by
  intro l
  induction l with
  | nil => intro _ _; exact List.nodup_nil
  | cons x l ih =>
    intro h n
    rw [List.nodup_cons] at n
    rw [List.map_cons, List.nodup_cons]
    refine ⟨fun z => ?_, ih (fun a ha b hb => h a (by simp [ha]) b (by simp [hb])) n.2⟩
    obtain ⟨y, hy, e⟩ := List.mem_map.mp z
    have := h y (by simp [hy]) x (by simp) e
    subst this
    exact n.1 hy
theorem ren_ok {f : List Nat → List Nat} : ∀ {t : Tr}, (∀ n ∈ t.uses, okn (f n)) → (∀ n ∈ t.takes, okn (f n)) → (t.ren f).ok := by
  intro t
  induction t with
  | us n => intro h _; exact h n (by simp [Tr.uses])
  | tk n b ih => intro h1 h2; exact ⟨h2 n (by simp [Tr.takes]), ih (fun m hm => h1 m hm) fun m hm => h2 m (by simp [Tr.takes, hm])⟩
  | gv l r ihl ihr => intro h1 h2; exact ⟨ihl (fun m hm => h1 m (by simp [Tr.uses, hm])) fun m hm => h2 m (by simp [Tr.takes, hm]), ihr (fun m hm => h1 m (by simp [Tr.uses, hm])) fun m hm => h2 m (by simp [Tr.takes, hm])⟩
theorem ren_cl {f : List Nat → List Nat} : ∀ {t : Tr}, t.cl → (t.ren f).cl := by
  intro t
  induction t with
  | us n => intro h; trivial
  | tk n b ih =>
    intro h
    refine ⟨?_, ih h.2⟩
    rw [ren_pre]
    exact List.mem_map.mpr ⟨_, h.1, rfl⟩
  | gv l r ihl ihr => intro h; exact ⟨ihl h.1, ihr h.2⟩
theorem Good.ren {f : List Nat → List Nat} {t : Tr} (g : Good t) (hi : InjOn f t.uses) (ho : ∀ n ∈ t.uses, okn (f n)) : Good (t.ren f) := by
  have hs := t.cl_takes g.cl
  refine good_of (ren_ok ho fun n hn => ho n (hs n hn)) (ren_cl g.cl) ?_ ?_
  · rw [ren_uses]; exact hi.nodup g.nd2.1
  · rw [ren_takes]; exact InjOn.nodup (fun a ha b hb => hi a (hs a ha) b (hs b hb)) g.nd2.2
theorem mem_opens {t : Tr} {n : List Nat} : n ∈ t.opens ↔ n ∈ t.uses ∧ n ∉ t.takes := by
  unfold Tr.opens
  rw [List.mem_filter, decide_eq_true_iff]
theorem ren_opens {f : List Nat → List Nat} {t : Tr} (g : GW t) (hi : InjOn f t.uses) : (t.ren f).opens = t.opens.map f := by
  have hs := t.cl_takes g.cl
  unfold Tr.opens
  rw [ren_uses, ren_takes, List.filter_map]
  congr 1
  refine List.filter_congr fun n hn => ?_
  simp only [Function.comp]
  congr 1
  rw [eq_iff_iff]
  refine not_congr ⟨fun z => ?_, fun z => List.mem_map.mpr ⟨n, z, rfl⟩⟩
  obtain ⟨m, hm, e⟩ := List.mem_map.mp z
  rw [← hi m (hs m hm) n hn e]
  exact hm
/-! ### the first names that are not barred -/
def nxt (bar : List (List Nat)) : Nat → Nat → Nat
  | 0, n => n
  | k + 1, n => if letters n ∈ bar then nxt bar k (n + 1) else n
theorem nxt_spec (bar : List (List Nat)) : ∀ (k n : Nat), (∃ j, j < k ∧ letters (n + j) ∉ bar) → letters (nxt bar k n) ∉ bar ∧ n ≤ nxt bar k n ∧ nxt bar k n < n + k := by
  intro k
  induction k with
  | zero => rintro n ⟨j, h, _⟩; omega
  | succ k ih =>
    rintro n ⟨j, h1, h2⟩
    unfold nxt
    by_cases hm : letters n ∈ bar
    · rw [if_pos hm]
      have hj : j ≠ 0 := fun z => by rw [z] at h2; exact h2 hm
      obtain ⟨a, b, c⟩ := ih (n + 1) ⟨j - 1, by omega, by rw [show n + 1 + (j - 1) = n + j by omega]; exact h2⟩
      exact ⟨a, by omega, by omega⟩
    · rw [if_neg hm]
      exact ⟨hm, Nat.le_refl _, by omega⟩
def nx (bar : List (List Nat)) (n : Nat) : Nat := nxt bar (bar.length + 1) n
theorem nx_spec {bar : List (List Nat)} {n : Nat} (h : n + bar.length < 217180147158) : letters (nx bar n) ∉ bar ∧ n ≤ nx bar n ∧ nx bar n ≤ n + bar.length := by
  obtain ⟨j, h1, h2⟩ := new_at bar n h
  obtain ⟨a, b, c⟩ := nxt_spec bar (bar.length + 1) n ⟨j, h1, h2⟩
  exact ⟨a, b, by unfold nx; omega⟩
/-- where the search for the k-th name begins -/
def nst (bar : List (List Nat)) : Nat → Nat
  | 0 => 0
  | k + 1 => nx bar (nst bar k) + 1
def num (bar : List (List Nat)) (k : Nat) : Nat := nx bar (nst bar k)
theorem nst_le {bar : List (List Nat)} (hb : bar.length ≤ 10000) : ∀ k, k ≤ 10000 → nst bar k ≤ k * (bar.length + 1) := by
  intro k
  induction k with
  | zero => intro _; simp [nst]
  | succ k ih =>
    intro hk
    have h1 := ih (by omega)
    have h2 : k * (bar.length + 1) ≤ 10000 * 10001 := Nat.mul_le_mul (by omega) (by omega)
    have h3 := (nx_spec (bar := bar) (n := nst bar k) (by omega)).2.2
    show nx bar (nst bar k) + 1 ≤ (k + 1) * (bar.length + 1)
    rw [Nat.succ_mul]
    omega
theorem num_small {bar : List (List Nat)} (hb : bar.length ≤ 10000) {k : Nat} (hk : k ≤ 10000) : nst bar k ≤ 100010000 ∧ num bar k ≤ 100020000 ∧ nst bar k ≤ num bar k ∧ letters (num bar k) ∉ bar := by
  have h1 := nst_le hb k hk
  have h2 : k * (bar.length + 1) ≤ 10000 * 10001 := Nat.mul_le_mul hk (by omega)
  obtain ⟨a, b, c⟩ := nx_spec (bar := bar) (n := nst bar k) (by omega)
  exact ⟨by omega, by unfold num; omega, b, a⟩
theorem num_mono {bar : List (List Nat)} (hb : bar.length ≤ 10000) : ∀ {i j : Nat}, i < j → j ≤ 10000 → num bar i < num bar j := by
  intro i j
  induction j with
  | zero => intro h; omega
  | succ j ih =>
    intro h hj
    have h1 := (num_small hb (k := j + 1) hj).2.2.1
    have h2 : nst bar (j + 1) = num bar j + 1 := rfl
    rcases Nat.lt_or_ge i j with h3 | h3
    · have := ih h3 (by omega); omega
    · have : i = j := by omega
      subst this
      omega
/-! ### standard names -/
def sg (bar tks : List (List Nat)) (n : List Nat) : List Nat := if n ∈ tks then letters (num bar (tks.idxOf n)) else n
def Tr.std (t : Tr) : Tr := t.ren (sg t.opens t.takes)
theorem Tr.uses_le (t : Tr) : t.uses.length ≤ t.size := by
  induction t with
  | us n => simp [Tr.uses, Tr.size]
  | tk n b ih => simp [Tr.uses, Tr.size]; omega
  | gv l r ihl ihr => simp [Tr.uses, Tr.size]; omega
theorem Tr.takes_le (t : Tr) : t.takes.length ≤ t.size := by
  induction t with
  | us n => simp [Tr.takes, Tr.size]
  | tk n b ih => simp [Tr.takes, Tr.size]; omega
  | gv l r ihl ihr => simp [Tr.takes, Tr.size]; omega
theorem Tr.opens_le (t : Tr) : t.opens.length ≤ t.size := Nat.le_trans (List.length_filter_le _ _) t.uses_le
theorem idx_inj {l : List (List Nat)} {a b : List Nat} (ha : a ∈ l) (hb : b ∈ l) (h : l.idxOf a = l.idxOf b) : a = b := by
  have h1 := List.getElem_idxOf (List.idxOf_lt_length_of_mem ha)
  have h2 := List.getElem_idxOf (List.idxOf_lt_length_of_mem hb)
  have h3 : l[l.idxOf a]'(List.idxOf_lt_length_of_mem ha) = l[l.idxOf b]'(List.idxOf_lt_length_of_mem hb) := by congr 1
  rw [h1, h2] at h3
  exact h3
theorem sg_inj {t : Tr} (g : GW t) (hs : t.size ≤ 10000) : InjOn (sg t.opens t.takes) t.uses := by
  have hb : t.opens.length ≤ 10000 := Nat.le_trans t.opens_le hs
  have hk : ∀ n ∈ t.takes, t.takes.idxOf n ≤ 10000 := fun n hn => by
    have := List.idxOf_lt_length_of_mem hn
    have := t.takes_le
    omega
  have mix : ∀ a ∈ t.takes, ∀ b ∈ t.uses, b ∉ t.takes → letters (num t.opens (t.takes.idxOf a)) ≠ b := fun a ha b hb1 hb2 z => by
    have := (num_small hb (hk a ha)).2.2.2
    rw [z] at this
    exact this (mem_opens.mpr ⟨hb1, hb2⟩)
  intro a ha b hb' e
  unfold sg at e
  by_cases h1 : a ∈ t.takes
  · by_cases h2 : b ∈ t.takes
    · rw [if_pos h1, if_pos h2] at e
      have n1 := (num_small hb (hk a h1)).2.1
      have n2 := (num_small hb (hk b h2)).2.1
      have e2 := letters_inj (by omega) (by omega) e
      refine idx_inj h1 h2 ?_
      rcases Nat.lt_trichotomy (t.takes.idxOf a) (t.takes.idxOf b) with h | h | h
      · have := num_mono hb h (hk b h2); omega
      · exact h
      · have := num_mono hb h (hk a h1); omega
    · rw [if_pos h1, if_neg h2] at e
      exact absurd e (mix a h1 b hb' h2)
  · by_cases h2 : b ∈ t.takes
    · rw [if_neg h1, if_pos h2] at e
      exact absurd e.symm (mix b h2 a ha h1)
    · rw [if_neg h1, if_neg h2] at e
      exact e
theorem GW.ren {f : List Nat → List Nat} {t : Tr} (g : GW t) (hi : InjOn f t.uses) (hw : ∀ w ∈ (t.ren f).pre, w.wk) : GW (t.ren f) := by
  have hs := t.cl_takes g.cl
  refine ⟨hw, ?_, ?_, ren_cl g.cl⟩
  · rw [ren_uses]; exact hi.nodup g.un
  · rw [ren_takes]; exact InjOn.nodup (fun a ha b hb => hi a (hs a ha) b (hs b hb)) g.tn
theorem sg_ok {t : Tr} (hs : t.size ≤ 10000) {n : List Nat} (hn : n ∈ t.takes) : okn (sg t.opens t.takes n) := by
  have h1 := t.opens_le
  have h2 := t.takes_le
  unfold sg
  rw [if_pos hn]
  have := List.idxOf_lt_length_of_mem hn
  exact letters_ok (by have := (num_small (bar := t.opens) (k := t.takes.idxOf n) (by omega) (by omega)).2.1; omega)
theorem sg_open {t : Tr} {n : List Nat} (hn : n ∈ t.opens) : sg t.opens t.takes n = n := by
  unfold sg
  rw [if_neg (mem_opens.mp hn).2]
theorem GW.std {t : Tr} (g : GW t) (hs : t.size ≤ 10000) (ho : ∀ n ∈ t.opens, okn n) : Good t.std := by
  have hc := t.cl_takes g.cl
  have hi := sg_inj g hs
  refine good_of (ren_ok (fun n hn => ?_) fun n hn => sg_ok hs hn) (ren_cl g.cl) ?_ ?_
  · by_cases hm : n ∈ t.takes
    · exact sg_ok hs hm
    · rw [sg_open (mem_opens.mpr ⟨hn, hm⟩)]
      exact ho n (mem_opens.mpr ⟨hn, hm⟩)
  · unfold Tr.std; rw [ren_uses]; exact hi.nodup g.un
  · unfold Tr.std; rw [ren_takes]; exact InjOn.nodup (fun a ha b hb => hi a (hc a ha) b (hc b hb)) g.tn
theorem Good.std {t : Tr} (g : Good t) (hs : t.size ≤ 10000) : Good t.std := g.gw.std hs fun n hn => uses_okn g (mem_opens.mp hn).1
/-- when two programs, of which one is the other with names told anew, have the same standard names -/
theorem std_ren {t : Tr} {f : List Nat → List Nat} (g : GW t) (hi : InjOn f t.uses) : (t.ren f).std = t.std ↔ ∀ n ∈ t.opens, f n = n := by
  have hs := t.cl_takes g.cl
  have ho := ren_opens g hi
  unfold Tr.std
  rw [ren_ren, ho, ren_takes]
  have mem : ∀ n ∈ t.uses, (f n ∈ t.takes.map f ↔ n ∈ t.takes) := fun n hn => ⟨fun z => by
    obtain ⟨m, hm, e⟩ := List.mem_map.mp z
    rw [← hi m (hs m hm) n hn e]; exact hm, fun z => List.mem_map.mpr ⟨n, z, rfl⟩⟩
  constructor
  · intro e n hn
    obtain ⟨h1, h2⟩ := mem_opens.mp hn
    have e2 := congrArg Tr.uses e
    rw [ren_uses, ren_uses] at e2
    have := List.map_inj_left.mp e2 n h1
    unfold sg at this
    rw [if_neg h2, if_neg fun z => h2 ((mem n h1).mp z)] at this
    exact this
  · intro h
    have eo : t.opens.map f = t.opens := by
      conv => rhs; rw [← List.map_id t.opens]
      exact List.map_congr_left h
    rw [eo]
    have idx : ∀ n ∈ t.takes, (t.takes.map f).idxOf (f n) = t.takes.idxOf n := by
      have : ∀ (l : List (List Nat)), (∀ a ∈ l, a ∈ t.takes) → ∀ n ∈ l, (l.map f).idxOf (f n) = l.idxOf n := by
        intro l
        induction l with
        | nil => intro _ n hn; cases hn
        | cons x l ih =>
          intro hl n hn
          rw [List.map_cons, List.idxOf_cons, List.idxOf_cons]
          by_cases hx : x = n
          · subst hx; simp
          · have hx' : ¬ f x = f n := fun z => hx (hi x (hs x (hl x (by simp))) n (hs n (hl n hn)) z)
            have hn' : n ∈ l := by
              rcases List.mem_cons.mp hn with e | e
              · exact absurd e.symm hx
              · exact e
            have := ih (fun a ha => hl a (by simp [ha])) n hn'
            have b1 : (f x == f n) = false := beq_eq_false_iff_ne.mpr hx'
            have b2 : (x == n) = false := beq_eq_false_iff_ne.mpr hx
            rw [b1, b2, this]
      exact this t.takes fun a ha => ha
    refine ren_cong t (fun n hn => ?_) (fun n hn => ?_)
    · unfold sg
      by_cases hm : n ∈ t.takes
      · rw [if_pos hm, if_pos ((mem n hn).mpr hm), idx n hm]
      · rw [if_neg hm, if_neg fun z => hm ((mem n hn).mp z)]
        exact h n (mem_opens.mpr ⟨hn, hm⟩)
    · unfold sg
      rw [if_pos hn, if_pos ((mem n (hs n hn)).mpr hn), idx n hn]
theorem pre_inj : ∀ (s t : Tr) (a b : List Pw), s.pre ++ a = t.pre ++ b → s = t ∧ a = b := by
  intro s
  induction s with
  | us n =>
    intro t a b h
    cases t with
    | us m => simp [Tr.pre] at h; exact ⟨by rw [h.1], h.2⟩
    | tk m c => simp [Tr.pre] at h
    | gv l r => simp [Tr.pre] at h
  | tk n c ih =>
    intro t a b h
    cases t with
    | us m => simp [Tr.pre] at h
    | tk m d =>
      simp only [Tr.pre, List.cons_append, List.cons.injEq] at h
      obtain ⟨e1, e2⟩ := ih d a b h.2
      cases h.1
      exact ⟨by rw [e1], e2⟩
    | gv l r => simp [Tr.pre] at h
  | gv l r ihl ihr =>
    intro t a b h
    cases t with
    | us m => simp [Tr.pre] at h
    | tk m d => simp [Tr.pre] at h
    | gv l2 r2 =>
      simp only [Tr.pre, List.cons_append, List.cons.injEq, true_and, List.append_assoc] at h
      obtain ⟨e1, e2⟩ := ihl l2 _ _ h
      obtain ⟨e3, e4⟩ := ihr r2 _ _ e2
      exact ⟨by rw [e1, e3], e4⟩
theorem pre_eq {s t : Tr} : s.pre = t.pre ↔ s = t := ⟨fun h => (pre_inj s t [] [] (by simpa using h)).1, fun h => by rw [h]⟩
instance : DecidableEq Tr := fun a b => decidable_of_iff (a.pre = b.pre) pre_eq
theorem std_opens {t : Tr} (g : GW t) (hs : t.size ≤ 10000) : t.std.opens = t.opens := by
  unfold Tr.std
  rw [ren_opens g (sg_inj g hs)]
  conv => rhs; rw [← List.map_id t.opens]
  exact List.map_congr_left fun n hn => sg_open hn
/-- standard names of standard names -/
theorem std_std {t : Tr} (g : GW t) (hs : t.size ≤ 10000) : t.std.std = t.std := (std_ren g (sg_inj g hs)).mpr fun n hn => sg_open hn
theorem std_size (t : Tr) : t.std.size = t.size := ren_size _ t
theorem std_gives (t : Tr) : t.std.gives = t.gives := ren_gives _ t
/-! ### a program in the place of a name -/
def Tr.sub : Tr → List Nat → Tr → Tr
  | .us n, x, u => if n = x then u else .us n
  | .tk n b, x, u => .tk n (b.sub x u)
  | .gv l r, x, u => .gv (l.sub x u) (r.sub x u)
theorem sub_no {x : List Nat} {u : Tr} : ∀ {t : Tr}, x ∉ t.uses → t.sub x u = t := by
  intro t
  induction t with
  | us n => intro h; simp [Tr.uses] at h; simp [Tr.sub, Ne.symm h]
  | tk n b ih => intro h; simp only [Tr.sub]; rw [ih h]
  | gv l r ihl ihr =>
    intro h
    simp only [Tr.uses, List.mem_append, not_or] at h
    simp only [Tr.sub]
    rw [ihl h.1, ihr h.2]
theorem sub_pre {x : List Nat} {u : Tr} : ∀ {t : Tr}, t.uses.Nodup → x ∈ t.uses → ∃ A B, t.pre = A ++ Pw.us x :: B ∧ Pw.us x ∉ A ∧ Pw.us x ∉ B ∧ (t.sub x u).pre = A ++ (u.pre ++ B) := by
  intro t
  induction t with
  | us n =>
    intro _ h
    simp [Tr.uses] at h
    subst h
    exact ⟨[], [], rfl, by simp, by simp, by simp [Tr.sub]⟩
  | tk n b ih =>
    intro hn h
    obtain ⟨A, B, h1, h2, h3, h4⟩ := ih hn h
    exact ⟨.tk n :: A, B, by simp [Tr.pre, h1], by simp [h2], h3, by simp [Tr.sub, Tr.pre, h4]⟩
  | gv l r ihl ihr =>
    intro hn h
    obtain ⟨n1, n2, n3⟩ := List.nodup_append.mp (show (l.uses ++ r.uses).Nodup from hn)
    rcases List.mem_append.mp (show x ∈ l.uses ++ r.uses from h) with h | h
    · obtain ⟨A, B, h1, h2, h3, h4⟩ := ihl n1 h
      have hr : x ∉ r.uses := fun z => n3 x h x z rfl
      refine ⟨.gv :: A, B ++ r.pre, by simp [Tr.pre, h1], by simp [h2], ?_, by simp [Tr.sub, Tr.pre, h4, sub_no hr]⟩
      intro z
      rcases List.mem_append.mp z with z | z
      · exact h3 z
      · exact hr ((r.mem_uses x).mpr z)
    · obtain ⟨A, B, h1, h2, h3, h4⟩ := ihr n2 h
      have hl : x ∉ l.uses := fun z => n3 x z x h rfl
      refine ⟨.gv :: (l.pre ++ A), B, by simp [Tr.pre, h1], ?_, h3, by simp [Tr.sub, Tr.pre, h4, sub_no hl]⟩
      intro z
      rcases List.mem_cons.mp z with z | z
      · cases z
      · rcases List.mem_append.mp z with z | z
        · exact hl ((l.mem_uses x).mpr z)
        · exact h2 z
theorem sub_uses {x : List Nat} {u : Tr} : ∀ {t : Tr}, t.uses.Nodup → x ∈ t.uses → List.Perm (t.sub x u).uses (t.uses.erase x ++ u.uses) := by
  intro t
  induction t with
  | us n =>
    intro _ h
    simp [Tr.uses] at h
    subst h
    simp [Tr.sub, Tr.uses]
  | tk n b ih => intro hn h; exact ih hn h
  | gv l r ihl ihr =>
    intro hn h
    obtain ⟨n1, n2, n3⟩ := List.nodup_append.mp (show (l.uses ++ r.uses).Nodup from hn)
    show List.Perm ((l.sub x u).uses ++ (r.sub x u).uses) ((l.uses ++ r.uses).erase x ++ u.uses)
    rcases List.mem_append.mp (show x ∈ l.uses ++ r.uses from h) with h | h
    · have hr : x ∉ r.uses := fun z => n3 x h x z rfl
      rw [sub_no hr, List.erase_append_left _ h]
      refine ((ihl n1 h).append_right _).trans ?_
      rw [List.append_assoc, List.append_assoc]
      exact List.Perm.append_left _ List.perm_append_comm
    · have hl : x ∉ l.uses := fun z => n3 x z x h rfl
      rw [sub_no hl, List.erase_append_right _ hl, List.append_assoc]
      exact (ihr n2 h).append_left _
theorem sub_takes {x : List Nat} {u : Tr} : ∀ {t : Tr}, t.uses.Nodup → x ∈ t.uses → List.Perm (t.sub x u).takes (t.takes ++ u.takes) := by
  intro t
  induction t with
  | us n =>
    intro _ h
    simp [Tr.uses] at h
    subst h
    simp [Tr.sub, Tr.takes]
  | tk n b ih => intro hn h; exact (ih hn h).cons n
  | gv l r ihl ihr =>
    intro hn h
    obtain ⟨n1, n2, n3⟩ := List.nodup_append.mp (show (l.uses ++ r.uses).Nodup from hn)
    show List.Perm ((l.sub x u).takes ++ (r.sub x u).takes) ((l.takes ++ r.takes) ++ u.takes)
    rcases List.mem_append.mp (show x ∈ l.uses ++ r.uses from h) with h | h
    · have hr : x ∉ r.uses := fun z => n3 x h x z rfl
      rw [sub_no hr]
      refine ((ihl n1 h).append_right _).trans ?_
      rw [List.append_assoc, List.append_assoc]
      exact List.Perm.append_left _ List.perm_append_comm
    · have hl : x ∉ l.uses := fun z => n3 x z x h rfl
      rw [sub_no hl, List.append_assoc]
      exact (ihr n2 h).append_left _
theorem sub_size {x : List Nat} {u : Tr} {t : Tr} (hn : t.uses.Nodup) (h : x ∈ t.uses) : (t.sub x u).size + 1 = t.size + u.size := by
  obtain ⟨A, B, h1, _, _, h4⟩ := sub_pre (u := u) hn h
  have e1 := congrArg List.length h1
  have e2 := congrArg List.length h4
  simp [Tr.pre_len] at e1 e2
  omega
theorem sub_gives {x : List Nat} {u : Tr} : ∀ {t : Tr}, t.uses.Nodup → x ∈ t.uses → (t.sub x u).gives = t.gives + u.gives := by
  intro t
  induction t with
  | us n =>
    intro _ h
    simp [Tr.uses] at h
    subst h
    simp [Tr.sub, Tr.gives]
  | tk n b ih => intro hn h; exact ih hn h
  | gv l r ihl ihr =>
    intro hn h
    obtain ⟨n1, n2, n3⟩ := List.nodup_append.mp (show (l.uses ++ r.uses).Nodup from hn)
    show (l.sub x u).gives + (r.sub x u).gives + 1 = l.gives + r.gives + 1 + u.gives
    rcases List.mem_append.mp (show x ∈ l.uses ++ r.uses from h) with h | h
    · have hr : x ∉ r.uses := fun z => n3 x h x z rfl
      rw [sub_no hr, ihl n1 h]
      omega
    · have hl : x ∉ l.uses := fun z => n3 x z x h rfl
      rw [sub_no hl, ihr n2 h]
      omega
theorem sub_ren {f : List Nat → List Nat} {x : List Nat} {u : Tr} : ∀ {t : Tr}, (∀ n ∈ t.uses, f n = f x → n = x) → (t.sub x u).ren f = (t.ren f).sub (f x) (u.ren f) := by
  intro t
  induction t with
  | us n =>
    intro h
    by_cases e : n = x
    · subst e; simp [Tr.sub, Tr.ren]
    · have : ¬ f n = f x := fun z => e (h n (by simp [Tr.uses]) z)
      simp [Tr.sub, Tr.ren, e, this]
  | tk n b ih => intro h; simp only [Tr.sub, Tr.ren]; rw [ih h]
  | gv l r ihl ihr =>
    intro h
    simp only [Tr.sub, Tr.ren]
    rw [ihl fun n hn => h n (by simp [Tr.uses, hn]), ihr fun n hn => h n (by simp [Tr.uses, hn])]
/-- the name in whose place it comes is told anew first -/
theorem sub_name {g : List Nat → List Nat} {x : List Nat} {u : Tr} : ∀ {t : Tr}, (∀ n ∈ t.uses, n ≠ x → g n = n ∧ n ≠ g x) → (∀ n ∈ t.takes, g n = n) → (t.ren g).sub (g x) u = t.sub x u := by
  intro t
  induction t with
  | us n =>
    intro h _
    by_cases e : n = x
    · subst e; simp [Tr.sub, Tr.ren]
    · obtain ⟨h1, h2⟩ := h n (by simp [Tr.uses]) e
      simp [Tr.sub, Tr.ren, e, h1, h2]
  | tk n b ih =>
    intro h h2
    simp only [Tr.sub, Tr.ren]
    rw [h2 n (by simp [Tr.takes]), ih h fun m hm => h2 m (by simp [Tr.takes, hm])]
  | gv l r ihl ihr =>
    intro h h2
    simp only [Tr.sub, Tr.ren]
    rw [ihl (fun n hn => h n (by simp [Tr.uses, hn])) fun m hm => h2 m (by simp [Tr.takes, hm]), ihr (fun n hn => h n (by simp [Tr.uses, hn])) fun m hm => h2 m (by simp [Tr.takes, hm])]
theorem sub_cl {x : List Nat} {u : Tr} (hu : u.cl) : ∀ {t : Tr}, t.cl → x ∉ t.takes → (t.sub x u).cl := by
  have keep : ∀ (t : Tr) (n : List Nat), Pw.us n ∈ t.pre → n ≠ x → Pw.us n ∈ (t.sub x u).pre := by
    intro t
    induction t with
    | us m =>
      intro n h e
      simp [Tr.pre] at h
      subst h
      simp [Tr.sub, e, Tr.pre]
    | tk m b ih =>
      intro n h e
      simp only [Tr.pre, List.mem_cons] at h
      rcases h with h | h
      · cases h
      · simp [Tr.sub, Tr.pre, ih n h e]
    | gv l r ihl ihr =>
      intro n h e
      simp only [Tr.pre, List.mem_cons, List.mem_append] at h
      rcases h with h | h | h
      · cases h
      · simp [Tr.sub, Tr.pre, ihl n h e]
      · simp [Tr.sub, Tr.pre, ihr n h e]
  intro t
  induction t with
  | us n => intro _ _; simp only [Tr.sub]; split; exact hu; trivial
  | tk n b ih =>
    intro h1 h2
    simp only [Tr.takes, List.mem_cons, not_or] at h2
    exact ⟨keep b n h1.1 (Ne.symm h2.1), ih h1.2 h2.2⟩
  | gv l r ihl ihr =>
    intro h1 h2
    simp only [Tr.takes, List.mem_append, not_or] at h2
    exact ⟨ihl h1.1 h2.1, ihr h1.2 h2.2⟩
end Once

/-! PB: parts replaced; names marked; programs applied, put in. -/
namespace Once
open PySem PySem.Spec L2 OD F
def Tr.put : Tr → Nat → Tr → Tr
  | _, 0, s => s
  | .us n, _ + 1, _ => .us n
  | .tk n b, p + 1, s => .tk n (b.put p s)
  | .gv l r, p + 1, s => if p < l.size then .gv (l.put p s) r else .gv l (r.put (p - l.size) s)
theorem put_zero (t s : Tr) : t.put 0 s = s := by cases t <;> rfl
theorem put_gv (l r s : Tr) (p : Nat) : (Tr.gv l r).put (p + 1) s = if p < l.size then .gv (l.put p s) r else .gv l (r.put (p - l.size) s) := rfl
theorem at_gv (l r : Tr) (p : Nat) : (Tr.gv l r).at (p + 1) = if p < l.size then l.at p else r.at (p - l.size) := rfl
/-- what stands ahead of a part, and behind it -/
theorem put_all (t : Tr) : ∀ (p : Nat) (s : Tr), t.at p = some s → (∃ A q, t.pre = A ++ (s.pre ++ q) ∧ A.length = p ∧ ∀ s', (t.put p s').pre = A ++ (s'.pre ++ q)) ∧ (∃ A q, t.uses = A ++ (s.uses ++ q) ∧ ∀ s', (t.put p s').uses = A ++ (s'.uses ++ q)) ∧ (∃ A q, t.takes = A ++ (s.takes ++ q) ∧ ∀ s', (t.put p s').takes = A ++ (s'.takes ++ q)) ∧ (∃ k, t.gives = k + s.gives ∧ ∀ s', (t.put p s').gives = k + s'.gives) := by
  induction t with
  | us n =>
    intro p s h
    cases p with
    | zero => cases h; exact ⟨⟨[], [], by simp, rfl, fun s' => by simp [put_zero]⟩, ⟨[], [], by simp, fun s' => by simp [put_zero]⟩, ⟨[], [], by simp, fun s' => by simp [put_zero]⟩, ⟨0, by simp, fun s' => by simp [put_zero]⟩⟩
    | succ p => cases h
  | tk n b ih =>
    intro p s h
    cases p with
    | zero => cases h; exact ⟨⟨[], [], by simp, rfl, fun s' => by simp [put_zero]⟩, ⟨[], [], by simp, fun s' => by simp [put_zero]⟩, ⟨[], [], by simp, fun s' => by simp [put_zero]⟩, ⟨0, by simp, fun s' => by simp [put_zero]⟩⟩
    | succ p =>
      obtain ⟨⟨A, q, a1, a2, a3⟩, ⟨B, r, b1, b2⟩, ⟨C, w, c1, c2⟩, ⟨k, d1, d2⟩⟩ := ih p s h
      exact ⟨⟨.tk n :: A, q, by simp [Tr.pre, a1], by simp [a2], fun s' => by simp [Tr.put, Tr.pre, a3]⟩, ⟨B, r, b1, b2⟩, ⟨n :: C, w, by simp [Tr.takes, c1], fun s' => by simp [Tr.put, Tr.takes, c2]⟩, ⟨k, d1, d2⟩⟩
  | gv l r ihl ihr =>
    intro p s h
    cases p with
    | zero => cases h; exact ⟨⟨[], [], by simp, rfl, fun s' => by simp [put_zero]⟩, ⟨[], [], by simp, fun s' => by simp [put_zero]⟩, ⟨[], [], by simp, fun s' => by simp [put_zero]⟩, ⟨0, by simp, fun s' => by simp [put_zero]⟩⟩
    | succ p =>
      rw [at_gv] at h
      by_cases hp : p < l.size
      · rw [if_pos hp] at h
        obtain ⟨⟨A, q, a1, a2, a3⟩, ⟨B, q2, b1, b2⟩, ⟨C, w, c1, c2⟩, ⟨k, d1, d2⟩⟩ := ihl p s h
        have e : ∀ s', (Tr.gv l r).put (p + 1) s' = .gv (l.put p s') r := fun s' => by rw [put_gv, if_pos hp]
        exact ⟨⟨.gv :: A, q ++ r.pre, by simp [Tr.pre, a1], by simp [a2], fun s' => by simp [e, Tr.pre, a3]⟩, ⟨B, q2 ++ r.uses, by simp [Tr.uses, b1], fun s' => by simp [e, Tr.uses, b2]⟩, ⟨C, w ++ r.takes, by simp [Tr.takes, c1], fun s' => by simp [e, Tr.takes, c2]⟩, ⟨k + r.gives + 1, by simp [Tr.gives, d1]; omega, fun s' => by simp [e, Tr.gives, d2]; omega⟩⟩
      · rw [if_neg hp] at h
        obtain ⟨⟨A, q, a1, a2, a3⟩, ⟨B, q2, b1, b2⟩, ⟨C, w, c1, c2⟩, ⟨k, d1, d2⟩⟩ := ihr (p - l.size) s h
        have e : ∀ s', (Tr.gv l r).put (p + 1) s' = .gv l (r.put (p - l.size) s') := fun s' => by rw [put_gv, if_neg hp]
        exact ⟨⟨.gv :: (l.pre ++ A), q, by simp [Tr.pre, a1], by simp [a2, Tr.pre_len]; omega, fun s' => by simp [e, Tr.pre, a3]⟩, ⟨l.uses ++ B, q2, by simp [Tr.uses, b1], fun s' => by simp [e, Tr.uses, b2]⟩, ⟨l.takes ++ C, w, by simp [Tr.takes, c1], fun s' => by simp [e, Tr.takes, c2]⟩, ⟨l.gives + k + 1, by simp [Tr.gives, d1]; omega, fun s' => by simp [e, Tr.gives, d2]; omega⟩⟩
theorem put_at (t : Tr) : ∀ (p : Nat) (s : Tr), t.at p = some s → t.put p s = t := by
  intro p s h
  obtain ⟨⟨A, q, a1, a2, a3⟩, _⟩ := put_all t p s h
  refine pre_eq.mp ?_
  rw [a3, a1]
theorem put_size {t s s' : Tr} {p : Nat} (h : t.at p = some s) : (t.put p s').size + s.size = t.size + s'.size := by
  obtain ⟨⟨A, q, a1, a2, a3⟩, _⟩ := put_all t p s h
  have e1 := congrArg List.length a1
  have e2 := congrArg List.length (a3 s')
  simp [Tr.pre_len] at e1 e2
  omega
theorem put_sub {y : List Nat} {s' : Tr} : ∀ (t : Tr) (p : Nat), p < t.size → y ∉ t.uses → (t.put p (.us y)).sub y s' = t.put p s' := by
  intro t
  induction t with
  | us n =>
    intro p h hy
    have : p = 0 := by simp [Tr.size] at h; omega
    subst this
    simp [put_zero, Tr.sub]
  | tk n b ih =>
    intro p h hy
    cases p with
    | zero => simp [put_zero, Tr.sub]
    | succ p => simp only [Tr.put, Tr.sub]; rw [ih p (by simp [Tr.size] at h; omega) hy]
  | gv l r ihl ihr =>
    intro p h hy
    simp only [Tr.uses, List.mem_append, not_or] at hy
    cases p with
    | zero => simp [put_zero, Tr.sub]
    | succ p =>
      rw [put_gv, put_gv]
      simp only [Tr.size] at h
      by_cases hp : p < l.size
      · rw [if_pos hp, if_pos hp]
        simp only [Tr.sub]
        rw [ihl p hp hy.1, sub_no hy.2]
      · rw [if_neg hp, if_neg hp]
        simp only [Tr.sub]
        rw [ihr (p - l.size) (by omega) hy.2, sub_no hy.1]
theorem at_at (t : Tr) : ∀ (p q : Nat) (s w : Tr), t.at p = some s → s.at q = some w → t.at (p + q) = some w ∧ ∀ w', t.put p (s.put q w') = t.put (p + q) w' := by
  induction t with
  | us n =>
    intro p q s w h h2
    cases p with
    | zero => cases h; rw [Nat.zero_add]; exact ⟨h2, fun w' => by rw [put_zero]⟩
    | succ p => cases h
  | tk n b ih =>
    intro p q s w h h2
    cases p with
    | zero => cases h; rw [Nat.zero_add]; exact ⟨h2, fun w' => by rw [put_zero]⟩
    | succ p =>
      obtain ⟨a, b⟩ := ih p q s w h h2
      rw [show p + 1 + q = p + q + 1 by omega]
      exact ⟨a, fun w' => by simp [Tr.put, b]⟩
  | gv l r ihl ihr =>
    intro p q s w h h2
    cases p with
    | zero => cases h; rw [Nat.zero_add]; exact ⟨h2, fun w' => by rw [put_zero]⟩
    | succ p =>
      have hq : q < s.size := by
        obtain ⟨A, B, e, l, _⟩ := s.at_pre q w h2
        have e1 := congrArg List.length e
        have := w.size_pos
        simp [Tr.pre_len, l] at e1
        omega
      rw [at_gv] at h
      rw [show p + 1 + q = p + q + 1 by omega, at_gv]
      by_cases hp : p < l.size
      · rw [if_pos hp] at h
        have := l.at_size h
        obtain ⟨a, b⟩ := ihl p q s w h h2
        rw [if_pos (by omega)]
        refine ⟨a, fun w' => ?_⟩
        rw [put_gv, put_gv, if_pos hp, if_pos (by omega), b]
      · rw [if_neg hp] at h
        obtain ⟨a, b⟩ := ihr (p - l.size) q s w h h2
        rw [if_neg (by omega), show p + q - l.size = p - l.size + q by omega]
        refine ⟨a, fun w' => ?_⟩
        rw [put_gv, put_gv, if_neg hp, if_neg (by omega), show p + q - l.size = p - l.size + q by omega, b]
theorem put_cl {s s' : Tr} (hs : s'.cl) : ∀ (t : Tr) (p : Nat), t.at p = some s → t.cl → t.takes.Nodup → (∀ n ∈ t.takes, n ∉ s.takes → n ∈ s.uses → n ∈ s'.uses) → (t.put p s').cl := by
  intro t
  induction t with
  | us n =>
    intro p h _ _ _
    cases p with
    | zero => rw [put_zero]; exact hs
    | succ p => cases h
  | tk n b ih =>
    intro p h hc hn hh
    cases p with
    | zero => rw [put_zero]; exact hs
    | succ p =>
      have h' : b.at p = some s := h
      obtain ⟨_, ⟨B, r, b1, b2⟩, ⟨C, w, c1, c2⟩, _⟩ := put_all b p s h'
      rw [show (Tr.tk n b).takes = n :: b.takes from rfl, List.nodup_cons] at hn
      refine ⟨?_, ih p h' hc.2 hn.2 fun m hm => hh m (by simp [Tr.takes, hm])⟩
      rw [← Tr.mem_uses, b2 s']
      have hu := (b.mem_uses n).mpr hc.1
      rw [b1] at hu
      simp only [List.mem_append] at hu ⊢
      rcases hu with hu | hu | hu
      · exact .inl hu
      · exact .inr (.inl (hh n (by simp [Tr.takes]) (fun z => hn.1 (by rw [c1]; simp [z])) hu))
      · exact .inr (.inr hu)
  | gv l r ihl ihr =>
    intro p h hc hn hh
    obtain ⟨n1, n2, n3⟩ := List.nodup_append.mp (show (l.takes ++ r.takes).Nodup from hn)
    cases p with
    | zero => rw [put_zero]; exact hs
    | succ p =>
      rw [at_gv] at h
      rw [put_gv]
      by_cases hp : p < l.size
      · rw [if_pos hp] at h ⊢
        exact ⟨ihl p h hc.1 n1 fun m hm => hh m (by simp [Tr.takes, hm]), hc.2⟩
      · rw [if_neg hp] at h ⊢
        exact ⟨hc.1, ihr (p - l.size) h hc.2 n2 fun m hm => hh m (by simp [Tr.takes, hm])⟩
theorem ren_put {f : List Nat → List Nat} {s' : Tr} : ∀ (t : Tr) (p : Nat), p < t.size → (t.put p s').ren f = (t.ren f).put p (s'.ren f) := by
  intro t
  induction t with
  | us n =>
    intro p h
    have : p = 0 := by simp [Tr.size] at h; omega
    subst this
    simp [put_zero]
  | tk n b ih =>
    intro p h
    cases p with
    | zero => simp [put_zero]
    | succ p => simp only [Tr.put, Tr.ren]; rw [ih p (by simp [Tr.size] at h; omega)]
  | gv l r ihl ihr =>
    intro p h
    cases p with
    | zero => simp [put_zero]
    | succ p =>
      simp only [Tr.size] at h
      show ((Tr.gv l r).put (p + 1) s').ren f = (Tr.gv (l.ren f) (r.ren f)).put (p + 1) (s'.ren f)
      rw [put_gv, put_gv, ren_size]
      by_cases hp : p < l.size
      · rw [if_pos hp, if_pos hp]
        simp only [Tr.ren]
        rw [ihl p hp]
      · rw [if_neg hp, if_neg hp]
        simp only [Tr.ren]
        rw [ihr (p - l.size) (by omega)]
/-! ### marks -/
def mk (m : Nat) (op : List (List Nat)) (n : List Nat) : List Nat := if n ∈ op then n else m :: n
theorem mk_open {m : Nat} {op : List (List Nat)} {n : List Nat} (h : n ∈ op) : mk m op n = n := if_pos h
theorem mk_not {m : Nat} {op : List (List Nat)} {n : List Nat} (h : n ∉ op) : mk m op n = m :: n := if_neg h
theorem okn_ne {n k : List Nat} {m : Nat} (h : okn n) (hm : m < 97) : n ≠ m :: k := fun e => by
  have := h.2.2 m (by rw [e]; simp)
  omega
theorem mk_inj {m : Nat} {t : Tr} (g : Good t) (hm : m < 97) : InjOn (mk m t.opens) t.uses := by
  intro a ha b hb e
  by_cases h1 : a ∈ t.opens
  · rw [mk_open h1] at e
    by_cases h2 : b ∈ t.opens
    · rwa [mk_open h2] at e
    · rw [mk_not h2] at e
      exact absurd e (okn_ne (uses_okn g ha) hm)
  · rw [mk_not h1] at e
    by_cases h2 : b ∈ t.opens
    · rw [mk_open h2] at e
      exact absurd e.symm (okn_ne (uses_okn g hb) hm)
    · rw [mk_not h2] at e
      exact (List.cons.inj e).2
theorem mk_wk {m : Nat} {op : List (List Nat)} {w : Pw} (hw : w.ok) (h1 : m ≠ 47) (h2 : m ≠ 64) : (w.ren (mk m op)).wk := by
  cases w with
  | gv => trivial
  | tk n =>
    have := hw.2.1
    show (mk m op n).length ≤ 1000
    unfold mk
    split
    · omega
    · simp; omega
  | us n =>
    have := hw.2.1
    show mk m op n ≠ [64] ∧ (mk m op n).take 1 ≠ [47] ∧ (mk m op n).length ≤ 1000
    unfold mk
    split
    · exact ⟨okn_at hw, okn_sl hw, by omega⟩
    · refine ⟨fun z => h2 (by simp at z; exact z.1), fun z => h1 (by simpa using z), by simp; omega⟩
abbrev Tr.m1 (t : Tr) : Tr := t.ren (mk 49 t.opens)
abbrev Tr.m2 (t : Tr) : Tr := t.ren (mk 50 t.opens)
theorem mtake {m : Nat} {t : Tr} {n : List Nat} (h : n ∈ t.takes) : mk m t.opens n = m :: n := mk_not fun z => (mem_opens.mp z).2 h
theorem mopens {m : Nat} {t : Tr} (g : Good t) (hm : m < 97) : (t.ren (mk m t.opens)).opens = t.opens := by
  rw [ren_opens g.gw (mk_inj g hm)]
  conv => rhs; rw [← List.map_id t.opens]
  exact List.map_congr_left fun n hn => mk_open hn
theorem mtakes {m : Nat} (t : Tr) : (t.ren (mk m t.opens)).takes = t.takes.map (m :: ·) := by
  rw [ren_takes]
  exact List.map_congr_left fun n hn => mtake hn
theorem m_gw {m : Nat} {t : Tr} (g : Good t) (hm : m < 97) (h1 : m ≠ 47) (h2 : m ≠ 64) : GW (t.ren (mk m t.opens)) :=
  g.gw.ren (mk_inj g hm) fun w hw => by
    rw [ren_pre] at hw
    obtain ⟨v, hv, rfl⟩ := List.mem_map.mp hw
    exact mk_wk (g.ok_mem' v hv) h1 h2
/-- names of a marked program: open ones, or marked ones -/
theorem m_use {m : Nat} {t : Tr} {n : List Nat} (h : n ∈ (t.ren (mk m t.opens)).uses) : n ∈ t.opens ∨ ∃ k, n = m :: k ∧ k ∈ t.takes := by
  rw [ren_uses] at h
  obtain ⟨k, hk, rfl⟩ := List.mem_map.mp h
  by_cases ho : k ∈ t.opens
  · rw [mk_open ho]; exact .inl ho
  · rw [mk_not ho]
    refine .inr ⟨k, rfl, ?_⟩
    by_cases ht : k ∈ t.takes
    · exact ht
    · exact absurd (mem_opens.mpr ⟨hk, ht⟩) ho
/-! ### one given to the other -/
def ApT (t u : Tr) : Tr := .gv t.m1 u.m2
theorem open_okn {t : Tr} (g : Good t) {n : List Nat} (h : n ∈ t.opens) : okn n := uses_okn g (mem_opens.mp h).1
theorem m_disj {t u : Tr} (gt : Good t) (gu : Good u) {n : List Nat} (h1 : n ∈ t.m1.uses) (h2 : n ∈ u.m2.uses) : n ∈ t.opens ∧ n ∈ u.opens := by
  rcases m_use h1 with a | ⟨k, rfl, _⟩
  · rcases m_use h2 with b | ⟨k, rfl, _⟩
    · exact ⟨a, b⟩
    · exact absurd rfl (okn_ne (open_okn gt a) (by omega : 50 < 97))
  · rcases m_use h2 with b | ⟨j, e, _⟩
    · exact absurd rfl (okn_ne (open_okn gu b) (by omega : 49 < 97))
    · cases e
theorem m_tdisj {t u : Tr} {n : List Nat} (h1 : n ∈ t.m1.takes) (h2 : n ∈ u.m2.takes) : False := by
  rw [mtakes] at h1 h2
  obtain ⟨a, _, rfl⟩ := List.mem_map.mp h1
  obtain ⟨b, _, e⟩ := List.mem_map.mp h2
  cases e
theorem ap_gw {t u : Tr} (gt : Good t) (gu : Good u) (hd : ∀ n ∈ t.opens, n ∉ u.opens) : GW (ApT t u) ∧ ∀ n ∈ (ApT t u).opens, okn n := by
  have g1 := m_gw gt (m := 49) (by omega) (by omega) (by omega)
  have g2 := m_gw gu (m := 50) (by omega) (by omega) (by omega)
  refine ⟨⟨?_, ?_, ?_, g1.cl, g2.cl⟩, ?_⟩
  · intro w hw
    simp only [ApT, Tr.pre, List.mem_cons, List.mem_append] at hw
    rcases hw with rfl | hw | hw
    · trivial
    · exact g1.wk w hw
    · exact g2.wk w hw
  · exact List.nodup_append.mpr ⟨g1.un, g2.un, fun a ha b hb e => by
      subst e
      obtain ⟨h1, h2⟩ := m_disj gt gu ha hb
      exact hd a h1 h2⟩
  · exact List.nodup_append.mpr ⟨g1.tn, g2.tn, fun a ha b hb e => by
      subst e
      exact m_tdisj ha hb⟩
  · intro n hn
    obtain ⟨h1, h2⟩ := mem_opens.mp hn
    simp only [ApT, Tr.uses, Tr.takes, List.mem_append, not_or] at h1 h2
    rcases h1 with h1 | h1
    · rcases m_use h1 with a | ⟨k, rfl, hk⟩
      · exact open_okn gt a
      · exact absurd (by rw [mtakes]; exact List.mem_map.mpr ⟨k, hk, rfl⟩) h2.1
    · rcases m_use h1 with a | ⟨k, rfl, hk⟩
      · exact open_okn gu a
      · exact absurd (by rw [mtakes]; exact List.mem_map.mpr ⟨k, hk, rfl⟩) h2.2
/-! ### one put into the other -/
def PuT (t : Tr) (x : List Nat) (u : Tr) : Tr := t.m1.sub x u.m2
theorem m1_mem {t : Tr} {x : List Nat} (hx : x ∈ t.opens) : x ∈ t.m1.uses := by
  rw [ren_uses]
  exact List.mem_map.mpr ⟨x, (mem_opens.mp hx).1, mk_open hx⟩
theorem pu_gw {t u : Tr} {x : List Nat} (gt : Good t) (gu : Good u) (hx : x ∈ t.opens) (hd : ∀ n ∈ u.opens, n ∈ t.opens → n = x) : GW (PuT t x u) ∧ ∀ n ∈ (PuT t x u).opens, okn n ∧ (n ∈ u.opens ∨ n ∈ t.opens ∧ n ≠ x) := by
  have g1 := m_gw gt (m := 49) (by omega) (by omega) (by omega)
  have g2 := m_gw gu (m := 50) (by omega) (by omega) (by omega)
  have hxu := m1_mem hx
  have hxt : x ∉ t.m1.takes := fun z => by
    rw [mtakes] at z
    obtain ⟨k, _, e⟩ := List.mem_map.mp z
    exact okn_ne (open_okn gt hx) (by omega : 49 < 97) e.symm
  have pu := sub_uses (u := u.m2) g1.un hxu
  have pt := sub_takes (u := u.m2) g1.un hxu
  obtain ⟨A, B, e1, _, _, e2⟩ := sub_pre (u := u.m2) g1.un hxu
  refine ⟨⟨?_, ?_, ?_, sub_cl g2.cl g1.cl hxt⟩, ?_⟩
  · intro w hw
    rw [PuT, e2] at hw
    rcases List.mem_append.mp hw with h | h
    · exact g1.wk w (by rw [e1]; simp [h])
    · rcases List.mem_append.mp h with h | h
      · exact g2.wk w h
      · exact g1.wk w (by rw [e1]; simp [h])
  · refine pu.nodup_iff.mpr (List.nodup_append.mpr ⟨g1.un.erase x, g2.un, fun a ha b hb e => ?_⟩)
    subst e
    have ha' := List.mem_of_mem_erase ha
    obtain ⟨h1, h2⟩ := m_disj gt gu ha' hb
    have := hd a h2 h1
    subst this
    exact (List.Nodup.not_mem_erase g1.un) ha
  · exact pt.nodup_iff.mpr (List.nodup_append.mpr ⟨g1.tn, g2.tn, fun a ha b hb e => by
      subst e
      exact m_tdisj ha hb⟩)
  · intro n hn
    obtain ⟨h1, h2⟩ := mem_opens.mp hn
    have h1 := pu.mem_iff.mp h1
    have h2 : n ∉ t.m1.takes ++ u.m2.takes := fun z => h2 (pt.mem_iff.mpr z)
    simp only [List.mem_append, not_or] at h1 h2
    rcases h1 with h1 | h1
    · rcases m_use (List.mem_of_mem_erase h1) with a | ⟨k, rfl, hk⟩
      · refine ⟨open_okn gt a, .inr ⟨a, fun z => ?_⟩⟩
        subst z
        exact (List.Nodup.not_mem_erase g1.un) h1
      · exact absurd (by rw [mtakes]; exact List.mem_map.mpr ⟨k, hk, rfl⟩) h2.1
    · rcases m_use h1 with a | ⟨k, rfl, hk⟩
      · exact ⟨open_okn gu a, .inl a⟩
      · exact absurd (by rw [mtakes]; exact List.mem_map.mpr ⟨k, hk, rfl⟩) h2.2
end Once

/-! GN1: words of any letters; names taken, open; names told anew. -/
namespace Once
open PySem PySem.Spec L2 OD F
abbrev im? (x : Option Sv) : Prop := x = none ∨ ∃ d, x = some (.im d)
theorem im_of {x x' : Option Sv} (h : x' = x ∨ ∃ d, x' = some (.im d)) (h2 : im? x) : im? x' := by
  rcases h with e | e
  · rw [e]; exact h2
  · exact .inr e
theorem fSeq_nx {a b : FS} {s s1 : Sl} (h : a s = .nx s1) : fSeq a b s = b s1 := by simp [fSeq, h]
theorem while_stop {t : FT} {body : FS} {s s1 : Sl} (h : t s = .ok false s1) : fWhile t body s = .nx s1 := by
  refine fWhile_of (n := 1) ?_ (fun z => by cases z)
  show (t s).thn _ = _
  rw [h]
  rfl
theorem while_step {t : FT} {body : FS} {s s1 s2 : Sl} {o : O} (h : t s = .ok true s1) (hb : body s1 = .nx s2) (hr : fWhile t body s2 = o) (ho : o ≠ .bad) : fWhile t body s = o := by
  obtain ⟨n, e⟩ := fWhile_ex (t := t) (body := body) (s := s2) (by rw [hr]; exact ho)
  refine fWhile_of (n := n + 1) ?_ ho
  show (t s).thn _ = _
  rw [h, ok_thn, if_pos rfl, hb]
  dsimp only
  rw [e, hr]
theorem is_give_wk {w : Pw} (h : w.wk) : ff_is_give [.im (pw w)] = .ok (.im (.bl (decide (w = .gv)))) [.im (pw w)] := by
  cases w with
  | gv => simp [ff_is_give, fDef_eq, fb_is_give, late, pw, s_at]
  | tk n => simp [ff_is_give, fDef_eq, fb_is_give, late, pw, s_at, mkS_inj]
  | us n => simp [ff_is_give, fDef_eq, fb_is_give, late, pw, s_at, mkS_inj, h.1]
theorem is_take_wk {w : Pw} (h : w.wk) : ff_is_take [.im (pw w)] = .ok (.im (.bl (decide (w.ar = 1)))) [.im (pw w)] := by
  cases w with
  | gv => simp [ff_is_take, fDef_eq, fb_is_take, late, pw, s_sl, cutS_mk, cutL_1, Pw.ar, mkS_inj]
  | tk n =>
    have : n.length + 1 ≤ 16777216 := by have : n.length ≤ 1000 := h; omega
    simp [ff_is_take, fDef_eq, fb_is_take, late, pw, s_sl, cutS_mk, cutL_1, Pw.ar, mkS_inj, this]
  | us n =>
    have : n.length ≤ 16777216 := by have := h.2.2; omega
    simp [ff_is_take, fDef_eq, fb_is_take, late, pw, s_sl, cutS_mk, cutL_1, Pw.ar, mkS_inj, this, h.2.1]
theorem name_of_wk {w : Pw} (h : w.wk) : ff_name_of [.im (pw w)] = .ok (.im (pw (match w with | .tk n => .us n | w => w))) [.im (pw w)] := by
  cases w with
  | gv =>
    have h1 : ff_is_take [.im (pw .gv)] = _ := is_take_wk (w := .gv) trivial
    simp [ff_name_of, fDef_eq, fb_name_of, late, h1, Pw.ar]
  | tk n =>
    have h1 : ff_is_take [.im (pw (.tk n))] = _ := is_take_wk (w := .tk n) h
    have : n.length + 1 ≤ 16777216 := by have : n.length ≤ 1000 := h; omega
    simp [ff_name_of, fDef_eq, fb_name_of, late, h1, Pw.ar]
    simp [pw, cutS_mk, cutL_r, this]
  | us n =>
    have h1 : ff_is_take [.im (pw (.us n))] = _ := is_take_wk (w := .us n) h
    simp [ff_name_of, fDef_eq, fb_name_of, late, h1, Pw.ar]
theorem taken_loop_wk (W : List Pw) : ∀ (r : List Pw) (p : Nat) (acc : List (Key × D)) (x y : Option Sv), (∀ w ∈ r, w.wk) → ((acc ++ tkK p r).map (·.1)).Nodup → (x = none ∨ ∃ d, x = some (.im d)) → (y = none ∨ ∃ d, y = some (.im d)) → acc.length + r.length < 10000 →
    ∃ x' y', (x' = none ∨ ∃ d, x' = some (.im d)) ∧ (y' = none ∨ ∃ d, y' = some (.im d)) ∧
      dcL [1, 2] tg12 (fTru (oE (fCall 1 ff_is_take (rO 2 rNil)))) (fCall 1 ff_name_of (rO 2 rNil)) (fVar 1) (enumP p (r.map pw)) [some (.im (pws W)), x, y] acc = .ok (acc ++ tkK p r) [some (.im (pws W)), x', y'] := by
  intro r
  induction r with
  | nil => intro p acc x y _ _ hx hy _; exact ⟨x, y, hx, hy, by simp [dcL, tkK]⟩
  | cons w r ih =>
    intro p acc x y hok hnd hx hy hl
    have hw : w.wk := hok w (by simp)
    have h2 := is_take_wk hw
    have h3 := name_of_wk hw
    rw [List.length_cons] at hl
    have hk : acc.length < 16777216 := by omega
    cases w with
    | gv =>
      obtain ⟨x', y', g1, g2, e⟩ := ih (p + 1) acc (some (.im (.int (p : Nat)))) (some (.im (pw .gv))) (fun z hz => hok z (by simp [hz])) (by simpa [tkK] using hnd) (.inr ⟨_, rfl⟩) (.inr ⟨_, rfl⟩) (by omega)
      refine ⟨x', y', g1, g2, ?_⟩
      unfold dcL
      simp [late, h2, Pw.ar, tkK] at e ⊢
      exact e
    | us n =>
      obtain ⟨x', y', g1, g2, e⟩ := ih (p + 1) acc (some (.im (.int (p : Nat)))) (some (.im (pw (.us n)))) (fun z hz => hok z (by simp [hz])) (by simpa [tkK] using hnd) (.inr ⟨_, rfl⟩) (.inr ⟨_, rfl⟩) (by omega)
      refine ⟨x', y', g1, g2, ?_⟩
      unfold dcL
      simp [late, h2, Pw.ar, tkK] at e ⊢
      exact e
    | tk n =>
      obtain ⟨x', y', g1, g2, e⟩ := ih (p + 1) (acc ++ [(Sum.inr (mkS n), .int (p : Nat))]) (some (.im (.int (p : Nat)))) (some (.im (pw (.tk n)))) (fun z hz => hok z (by simp [hz])) (by simpa [tkK] using hnd) (.inr ⟨_, rfl⟩) (.inr ⟨_, rfl⟩) (by simp; omega)
      refine ⟨x', y', g1, g2, ?_⟩
      have hno : (Sum.inr (mkS n) : Key) ∉ acc.map (·.1) := by
        intro z
        rw [List.map_append, List.nodup_append] at hnd
        exact hnd.2.2 _ z _ (by simp [tkK]) rfl
      have hp := putD_no (v := .int (p : Nat)) hno
      unfold dcL
      simp [late, h2, h3, Pw.ar, tkK] at e ⊢
      simp [pw, keyD, hp, hk] at e ⊢
      exact e
theorem taken_wk {t : Tr} (g : GW t) (hl : t.size < 9000) : ff_taken [.im (pws t.pre)] = .ok (.im (.dic (tkK 0 t.pre))) [.im (pws t.pre)] := by
  have nd : (tkN t.pre).Nodup := by rw [tkN_pre]; exact g.tn
  obtain ⟨x, y, g1, g2, e⟩ := taken_loop_wk t.pre t.pre 0 [] none none g.wk (by simpa using tkK_nodup nd 0) (.inl rfl) (.inl rfl) (by rw [t.pre_len]; simp; omega)
  unfold pws at e
  simp at e
  simp [ff_taken, fDef_eq, fb_taken, late, pws, enumL_P, e]
/-- a row of words, some left out -/
theorem count_wk {i : Nat} {p : Pw → Bool} {T : FT} (S : Option Sv → Sl) (hS : ∀ x, wipeF (S x) [i] = S none) (hset : ∀ x d, (S x).set i (some (.im d)) = S (some (.im d))) (hv : ∀ w : Pw, fVar i (S (some (.im (pw w)))) = .ok (.im (pw w)) (S (some (.im (pw w))))) :
    ∀ (r : List Pw) (acc : List D) (x : Option Sv), (∀ w ∈ r, T (S (some (.im (pw w)))) = .ok (p w) (S (some (.im (pw w))))) → acc.length + r.length < 10000 → ∃ x', (x' = x ∨ ∃ d, x' = some (.im d)) ∧ lcL [i] (gName i) T (fVar i) (r.map pw) (S x) acc = .ok (acc ++ (r.filter p).map pw) (S x') := by
  intro r
  induction r with
  | nil => intro acc x _ _; exact ⟨x, .inl rfl, by simp [lcL]⟩
  | cons w r ih =>
    intro acc x hok hl
    rw [List.length_cons] at hl
    have hk : acc.length < 16777216 := by omega
    have h1 := hok w (by simp)
    cases hp : p w with
    | true =>
      obtain ⟨x', hx, e⟩ := ih (acc ++ [pw w]) (some (.im (pw w))) (fun z hz => hok z (by simp [hz])) (by simp; omega)
      refine ⟨x', .inr ?_, ?_⟩
      · rcases hx with rfl | hx
        · exact ⟨_, rfl⟩
        · exact hx
      · rw [List.map_cons]
        unfold lcL
        rw [hS, show F.gName i (pw w) (S none) = some (S (some (.im (pw w)))) from congrArg some (hset _ _)]
        dsimp only
        rw [h1, hp, nox_ok, ok_bind, if_pos rfl, hv, nox_ok, ok_bind]
        simp [hk, e, hp]
    | false =>
      obtain ⟨x', hx, e⟩ := ih acc (some (.im (pw w))) (fun z hz => hok z (by simp [hz])) (by omega)
      refine ⟨x', .inr ?_, ?_⟩
      · rcases hx with rfl | hx
        · exact ⟨_, rfl⟩
        · exact hx
      · rw [List.map_cons]
        unfold lcL
        rw [hS, show F.gName i (pw w) (S none) = some (S (some (.im (pw w)))) from congrArg some (hset _ _)]
        dsimp only
        rw [h1, hp, nox_ok, ok_bind]
        simp [e, hp]
theorem opens_pw (t : Tr) : (opn t.pre).map pw = t.opens.map fun n => D.str (mkS n) := by
  rw [opn_opens, List.map_map]
  rfl
theorem raw_open_wk {t : Tr} (g : GW t) (hl : t.size < 9000) : ff_raw_open [.im (pws t.pre)] = .ok (.im (.tup (t.opens.map fun n => D.str (mkS n)))) [.im (pws t.pre)] := by
  have h1 := taken_wk g hl
  have hT : ∀ w ∈ t.pre, (fAnd (fNot (fTru (oE (fCall 1 ff_is_give (rO 2 rNil))))) (fAnd (fNot (fTru (oE (fCall 1 ff_is_take (rO 2 rNil))))) (fTest (fOp (inF true) (oV 2) (oV 1))))) [some (.im (pws t.pre)), some (.im (.dic (tkK 0 t.pre))), some (.im (pw w))] = .ok (opP t.pre w) [some (.im (pws t.pre)), some (.im (.dic (tkK 0 t.pre))), some (.im (pw w))] := by
    intro w hw
    have a1 := is_give_wk (g.wk w hw)
    have a2 := is_take_wk (g.wk w hw)
    cases w with
    | gv => simp [late, a1, opP]
    | tk n => simp [late, a1, a2, opP, Pw.ar]
    | us n =>
      have a3 := in_names (tkK_keys t.pre 0) n
      simp only [mem_tkN] at a3
      simp [late, a1, a2, opP, Pw.ar]
      simp [pw, a3]
  obtain ⟨x', hx, e⟩ := count_wk (i := 2) (p := opP t.pre) (T := (fAnd (fNot (fTru (oE (fCall 1 ff_is_give (rO 2 rNil))))) (fAnd (fNot (fTru (oE (fCall 1 ff_is_take (rO 2 rNil))))) (fTest (fOp (inF true) (oV 2) (oV 1)))))) (fun x => [some (.im (pws t.pre)), some (.im (.dic (tkK 0 t.pre))), x]) (fun x => rfl) (fun x d => rfl) (fun w => by simp) t.pre [] none hT (by rw [t.pre_len]; simp; omega)
  have h3 := fil_len (opP t.pre) t.pre 16777216 (by rw [t.pre_len]; omega)
  rw [← opens_pw]
  unfold pws at e h1
  simp at e
  simp [ff_raw_open, fDef_eq, fb_raw_open, late, pws, h1, e, h3, opn_P]
theorem letters_name_loop (n : D) : ∀ (k l : Nat) (f : List Nat), l ≤ BB k → l < 1000000000000000 → f.length + k < 1000 → k ≤ 100 →
    fWhile (fTest (fOp gtF (oV 2) (oE (fC (.int 0))))) fb_letters_name_1 [some (.im n), some (.im (.str (mkS f))), some (.im (.int (l : Nat)))] = .nx [some (.im n), some (.im (.str (mkS (lt k l f)))), some (.im (.int 0))] := by
  intro k
  induction k with
  | zero =>
    intro l f h _ _ _
    have : l = 0 := by simpa [BB] using h
    subst this
    rw [lt_zero]
    exact while_stop (by simp)
  | succ k ih =>
    intro l f h hl hf hk
    by_cases h0 : l = 0
    · subst h0
      rw [lt_zero]
      exact while_stop (by simp)
    · have hp : 0 < l := by omega
      have hd1 : (l - 1) / 26 ≤ BB k := by
        unfold BB at h
        omega
      have e := ih ((l - 1) / 26) ((97 + (l - 1) % 26) :: f) hd1 (by omega) (by simp; omega) (by omega)
      have hm : ((l : Int) - 1) % 26 = (((l - 1) % 26 : Nat) : Int) := by omega
      have hd : ((l : Int) - 1) / 26 = (((l - 1) / 26 : Nat) : Int) := by omega
      have ha := al_at (i := (l - 1) % 26) (by omega)
      have hlen : f.length + 1 ≤ 16777216 := by omega
      have hlen' : 1 + f.length ≤ 16777216 := by omega
      have hlog : Nat.log2 26 < 9000 := by decide
      revert e ha hm hd
      rw [show lt (k + 1) l f = lt k ((l - 1) / 26) ((97 + (l - 1) % 26) :: f) by
        show (if l = 0 then f else lt k ((l - 1) / 26) ((97 + (l - 1) % 26) :: f)) = _
        rw [if_neg h0]]
      generalize (l - 1) % 26 = m
      generalize (l - 1) / 26 = q
      intro e hm hd ha
      have hp' : (0 : Int) < l := by omega
      refine while_step (s1 := [some (.im n), some (.im (.str (mkS f))), some (.im (.int (l : Nat)))]) (s2 := [some (.im n), some (.im (.str (mkS ((97 + m) :: f)))), some (.im (.int ((q : Nat) : Int)))]) (by simp [hp]) ?_ e (fun z => by cases z)
      simp [fb_letters_name_1, late, s_al, hm, hd, ha, hlen, hlen', hlog, mk1]
theorem letters_name_eq {n : Nat} (hn : n < 100000000000) : ff_letters_name [.im (.int (n : Nat))] = .ok (.im (.str (mkS (letters n)))) [.im (.int (n : Nat))] := by
  have hb : n + 1 ≤ BB 9 := by
    have : BB 9 = 26 * BB 8 + 26 := rfl
    rw [this, BB8]
    omega
  have e := letters_name_loop (.int (n : Nat)) 9 (n + 1) [] hb (by omega) (by simp) (by omega)
  simp only [Int.natCast_add] at e
  simp at e
  simp [ff_letters_name, fDef_eq, fb_letters_name, late, s_no, e, letters]
/-- a dict that tells each name of a word another one -/
def Told (kvs : List (Key × D)) (f : List Nat → List Nat) : Pw → Prop
  | .gv => True
  | .tk n => lookD kvs (Sum.inr (mkS n)) = some (.str (mkS (f n))) ∧ (f n).length ≤ 1000
  | .us n => lookD kvs (Sum.inr (mkS n)) = some (.str (mkS (f n))) ∧ (f n).length ≤ 1000
theorem word_renamed_eq {w : Pw} {kvs : List (Key × D)} {f : List Nat → List Nat} {sv : Sv} (hs : sv = .dic kvs ∨ sv = .im (.dic kvs)) (hw : w.wk) (h : Told kvs f w) : ff_word_renamed [.im (pw w), sv] = .ok (.im (pw (w.ren f))) [.im (pw w), sv] := by
  have h1 := is_give_wk hw
  have h2 := is_take_wk hw
  have h3 := name_of_wk hw
  rcases hs with rfl | rfl
  all_goals (
    cases w with
    | gv => simp [ff_word_renamed, fDef_eq, fb_word_renamed, late, h1, Pw.ren]
    | tk n =>
      have hl : 1 + (f n).length ≤ 16777216 := by have := h.2; omega
      simp [ff_word_renamed, fDef_eq, fb_word_renamed, late, h1, h2, h3, Pw.ren, Pw.ar]
      simp [pw, keyD, h.1, s_sl, hl]
    | us n =>
      simp [ff_word_renamed, fDef_eq, fb_word_renamed, late, h1, h2, Pw.ren, Pw.ar]
      simp [pw, keyD, h.1])
theorem words_renamed_loop {kvs : List (Key × D)} {f : List Nat → List Nat} {sv : Sv} (hs : sv = .dic kvs ∨ sv = .im (.dic kvs)) (W : List Pw) : ∀ (r : List Pw) (acc : List D) (x : Option Sv), (∀ w ∈ r, w.wk ∧ Told kvs f w) → acc.length + r.length < 10000 →
    ∃ x', lcL [2] (gName 2) tYes (fCall 2 ff_word_renamed (rO 2 (rO 1 rNil))) (r.map pw) [some (.im (pws W)), some sv, x] acc = .ok (acc ++ (r.map (Pw.ren f)).map pw) [some (.im (pws W)), some sv, x'] := by
  intro r
  induction r with
  | nil => intro acc x _ _; exact ⟨x, by simp [lcL]⟩
  | cons w r ih =>
    intro acc x h hl
    rw [List.length_cons] at hl
    obtain ⟨h1, h2⟩ := h w (by simp)
    have e1 := word_renamed_eq hs h1 h2
    obtain ⟨x', e⟩ := ih (acc ++ [pw (w.ren f)]) (some (.im (pw w))) (fun v hv => h v (by simp [hv])) (by simp; omega)
    refine ⟨x', ?_⟩
    have hk : acc.length < 16777216 := by omega
    rw [List.map_cons]
    unfold lcL
    simp at e
    rcases hs with rfl | rfl
    all_goals simp [late, e1, hk, e]
theorem words_renamed_eq {ws : List Pw} {kvs : List (Key × D)} {f : List Nat → List Nat} {sv : Sv} (hs : sv = .dic kvs ∨ sv = .im (.dic kvs)) (h : ∀ w ∈ ws, w.wk ∧ Told kvs f w) (hl : ws.length < 9000) : ff_words_renamed [.im (pws ws), sv] = .ok (.im (pws (ws.map (Pw.ren f)))) [.im (pws ws), sv] := by
  obtain ⟨x', e⟩ := words_renamed_loop hs ws ws [] none h (by simp; omega)
  have hk : ws.length ≤ 16777216 := by omega
  unfold pws at e ⊢
  simp at e
  rcases hs with rfl | rfl
  all_goals simp [ff_words_renamed, fDef_eq, fb_words_renamed, late, e, hk]
end Once

/-! GN2: standard names; words of any letters. -/
namespace Once
open PySem PySem.Spec L2 OD F
def opD (ns : List (List Nat)) : List (Key × D) := ns.map fun n => (Sum.inr (mkS n), D.str (mkS n))
def cdD (bar tks : List (List Nat)) : List (Key × D) := opD bar ++ tks.mapIdx fun i n => (Sum.inr (mkS n), D.str (mkS (letters (num bar i))))
theorem opD_keys (ns : List (List Nat)) : (opD ns).map (·.1) = ns.map fun n => (Sum.inr (mkS n) : Key) := by
  unfold opD
  rw [List.map_map]
  rfl
theorem mapIdx_keys (g : Nat → List Nat → D) : ∀ (l : List (List Nat)), (l.mapIdx fun i n => ((Sum.inr (mkS n) : Key), g i n)).map (·.1) = l.map fun n => (Sum.inr (mkS n) : Key) := by
  intro l
  induction l generalizing g with
  | nil => rfl
  | cons x l ih =>
    rw [List.mapIdx_cons, List.map_cons, List.map_cons]
    congr 1
    exact ih fun i => g (i + 1)
theorem cdD_keys (bar tks : List (List Nat)) : (cdD bar tks).map (·.1) = (bar ++ tks).map fun n => (Sum.inr (mkS n) : Key) := by
  unfold cdD
  rw [List.map_append, opD_keys, mapIdx_keys, List.map_append]
theorem cdD_snoc (bar tks : List (List Nat)) (n : List Nat) : cdD bar (tks ++ [n]) = cdD bar tks ++ [(Sum.inr (mkS n), D.str (mkS (letters (num bar tks.length))))] := by
  unfold cdD
  rw [List.mapIdx_append]
  simp
theorem GW.ot {t : Tr} (g : GW t) : (t.opens ++ t.takes).Nodup := by
  refine List.nodup_append.mpr ⟨g.un.filter _, g.tn, fun a ha b hb e => ?_⟩
  subst e
  exact (mem_opens.mp ha).2 hb
theorem cdD_told {t : Tr} (g : GW t) (hs : t.size ≤ 9000) : ∀ w ∈ t.pre, w.wk ∧ Told (cdD t.opens t.takes) (sg t.opens t.takes) w := by
  intro w hw
  have hok := g.wk w hw
  refine ⟨hok, ?_⟩
  have nd : ((cdD t.opens t.takes).map (·.1)).Nodup := by
    rw [cdD_keys]
    exact nodup_map_inj key_inj g.ot
  have tak : ∀ n ∈ t.takes, lookD (cdD t.opens t.takes) (Sum.inr (mkS n)) = some (.str (mkS (sg t.opens t.takes n))) := by
    intro n hn
    refine lookD_of nd ?_
    unfold cdD sg
    rw [if_pos hn]
    refine List.mem_append_right _ ?_
    rw [List.mem_mapIdx]
    have hi := List.idxOf_lt_length_of_mem hn
    refine ⟨t.takes.idxOf n, hi, ?_⟩
    rw [List.getElem_idxOf hi]
  have ope : ∀ n ∈ t.opens, lookD (cdD t.opens t.takes) (Sum.inr (mkS n)) = some (.str (mkS (sg t.opens t.takes n))) := by
    intro n hn
    refine lookD_of nd ?_
    unfold cdD sg
    rw [if_neg (mem_opens.mp hn).2]
    exact List.mem_append_left _ (List.mem_map.mpr ⟨n, hn, rfl⟩)
  have lent : ∀ n ∈ t.takes, (sg t.opens t.takes n).length ≤ 1000 := fun n hn => by
    have := (sg_ok (t := t) (by omega) hn).2.1
    omega
  cases w with
  | gv => trivial
  | tk n => exact ⟨tak n ((t.mem_takes n).mpr hw), lent n ((t.mem_takes n).mpr hw)⟩
  | us n =>
    by_cases hm : n ∈ t.takes
    · exact ⟨tak n hm, lent n hm⟩
    · refine ⟨ope n (mem_opens.mpr ⟨(t.mem_uses n).mpr hw, hm⟩), ?_⟩
      rw [sg_open (mem_opens.mpr ⟨(t.mem_uses n).mpr hw, hm⟩)]
      exact hok.2.2
theorem open_dict (S : Option Sv → Sl) (hS : ∀ x, wipeF (S x) [5] = S none) (hset : ∀ x d, (S x).set 5 (some (.im d)) = S (some (.im d))) (hv : ∀ d, fVar 5 (S (some (.im d))) = .ok (.im d) (S (some (.im d)))) : ∀ (r pre : List (List Nat)) (x : Option Sv), (pre ++ r).Nodup → (pre ++ r).length < 10000 →
    ∃ x', (x' = x ∨ ∃ d, x' = some (.im d)) ∧ dcL [5] (gName 5) tYes (fVar 5) (fVar 5) (r.map fun n => D.str (mkS n)) (S x) (opD pre) = .ok (opD (pre ++ r)) (S x') := by
  intro r
  induction r with
  | nil => intro pre x _ _; exact ⟨x, .inl rfl, by simp [dcL]⟩
  | cons n r ih =>
    intro pre x hn hl
    have ea : pre ++ n :: r = pre ++ [n] ++ r := by simp
    obtain ⟨x', hx, e⟩ := ih (pre ++ [n]) (some (.im (.str (mkS n)))) (by rw [← ea]; exact hn) (by rw [← ea]; exact hl)
    refine ⟨x', ?_, ?_⟩
    · rcases hx with rfl | hx
      · exact .inr ⟨_, rfl⟩
      · exact .inr hx
    have hk : (Sum.inr (mkS n) : Key) ∉ (opD pre).map (·.1) := by
      rw [opD_keys]
      intro z
      obtain ⟨m, hm, e⟩ := List.mem_map.mp z
      rw [key_inj m n e] at hm
      exact (List.nodup_append.mp hn).2.2 n hm n (by simp) rfl
    have hp := putD_no (v := .str (mkS n)) hk
    have hs : (opD pre).length < 16777216 := by
      unfold opD
      rw [List.length_map]
      simp at hl
      omega
    have hd : opD (pre ++ [n]) = opD pre ++ [(Sum.inr (mkS n), D.str (mkS n))] := by simp [opD]
    rw [List.map_cons]
    unfold dcL
    rw [hS, show F.gName 5 (.str (mkS n)) (S none) = some (S (some (.im (.str (mkS n))))) from congrArg some (hset _ _)]
    rw [hd] at e
    have hv' := hv (.str (mkS n))
    simp only [List.append_assoc, List.singleton_append] at e
    simp [-fVar, hv', keyD, hp, hs, e]
theorem bar_loop {bar : List (List Nat)} (o0 o4 o5 : Option Sv) (o1 : Option Sv) : ∀ (k n : Nat), (∃ j, j < k ∧ letters (n + j) ∉ bar) → n + k < 1000000000 →
    fWhile (fTest (fOp (inF false) (oE (fCall 1 ff_letters_name (rO 3 rNil))) (oV 2))) fb_raw_standard_1 [o0, o1, some (.im (.dic (opD bar))), some (.im (.int (n : Nat))), o4, o5] = .nx [o0, o1, some (.im (.dic (opD bar))), some (.im (.int (nxt bar k n : Nat))), o4, o5] := by
  intro k
  induction k with
  | zero => rintro n ⟨j, h, _⟩; omega
  | succ k ih =>
    rintro n ⟨j, h1, h2⟩ hb
    have e1 := letters_name_eq (n := n) (by omega)
    have e2 := in_names (opD_keys bar) (letters n)
    unfold nxt
    by_cases hm : letters n ∈ bar
    · rw [if_pos hm]
      have hj : j ≠ 0 := fun z => by rw [z] at h2; exact h2 hm
      have e := ih (n + 1) ⟨j - 1, by omega, by rw [show n + 1 + (j - 1) = n + j by omega]; exact h2⟩ (by omega)
      exact while_step (s1 := [o0, o1, some (.im (.dic (opD bar))), some (.im (.int (n : Nat))), o4, o5]) (s2 := [o0, o1, some (.im (.dic (opD bar))), some (.im (.int ((n + 1 : Nat) : Int))), o4, o5]) (by simp [e1, e2, hm]) (by simp [fb_raw_standard_1]) e (fun z => by cases z)
    · rw [if_neg hm]
      exact while_stop (by simp [e1, e2, hm])
theorem std_loop {t : Tr} (g : GW t) (hs : t.size ≤ 9000) : ∀ (r pre : List Pw) (x4 : Option Sv), pre ++ r = t.pre →
    ∃ x', forL (gName 4) fb_raw_standard_2 (r.map pw) [some (.im (pws t.pre)), some (.dic (cdD t.opens (tkN pre))), some (.im (.dic (opD t.opens))), some (.im (.int (nst t.opens (tkN pre).length : Nat))), x4, none] = .nx [some (.im (pws t.pre)), some (.dic (cdD t.opens (tkN t.pre))), some (.im (.dic (opD t.opens))), some (.im (.int (nst t.opens (tkN t.pre).length : Nat))), x', none] := by
  intro r
  induction r with
  | nil => intro pre x4 e; rw [List.append_nil] at e; subst e; exact ⟨x4, rfl⟩
  | cons w r ih =>
    intro pre x4 ep
    have hw : w.wk := g.wk w (by rw [← ep]; simp)
    have h2 := is_take_wk hw
    obtain ⟨x', e⟩ := ih (pre ++ [w]) (some (.im (pw w))) (by rw [← ep]; simp)
    refine ⟨x', ?_⟩
    rw [List.map_cons, forL_step (s1 := [some (.im (pws t.pre)), some (.dic (cdD t.opens (tkN pre))), some (.im (.dic (opD t.opens))), some (.im (.int (nst t.opens (tkN pre).length : Nat))), some (.im (pw w)), none]) (by simp) ?_, e]
    have h3 := name_of_wk hw
    cases w with
    | gv => simp [fb_raw_standard_2, late, h2, Pw.ar, tkN_app, tkN]
    | us n => simp [fb_raw_standard_2, late, h2, Pw.ar, tkN_app, tkN]
    | tk n =>
      have hb : t.opens.length ≤ 9000 := Nat.le_trans t.opens_le hs
      have hk : (tkN pre).length ≤ 9000 := by
        have : (tkN pre).length ≤ (tkN t.pre).length := by rw [← ep, tkN_app, List.length_append]; omega
        rw [tkN_pre] at this
        have := t.takes_le
        omega
      obtain ⟨b1, b2, b3, b4⟩ := num_small (bar := t.opens) (k := (tkN pre).length) (by omega) (by omega)
      have e1 := bar_loop (bar := t.opens) (some (.im (pws t.pre))) (some (.im (pw (.tk n)))) none (some (.dic (cdD t.opens (tkN pre)))) (t.opens.length + 1) (nst t.opens (tkN pre).length) (new_at t.opens _ (by omega)) (by omega)
      have e3 := letters_name_eq (n := num t.opens (tkN pre).length) (by omega)
      have hnum : nxt t.opens (t.opens.length + 1) (nst t.opens (tkN pre).length) = num t.opens (tkN pre).length := rfl
      rw [hnum] at e1
      have hno : (Sum.inr (mkS n) : Key) ∉ (cdD t.opens (tkN pre)).map (·.1) := by
        rw [cdD_keys]
        intro z
        obtain ⟨m, hm, em⟩ := List.mem_map.mp z
        rw [key_inj m n em] at hm
        have nd := g.ot
        rw [← tkN_pre, ← ep, tkN_app, ← List.append_assoc] at nd
        exact (List.nodup_append.mp nd).2.2 n hm n (by simp [tkN]) rfl
      have hp := putD_no (v := .str (mkS (letters (num t.opens (tkN pre).length)))) hno
      have hz : (cdD t.opens (tkN pre)).length < 16777216 := by
        have := congrArg List.length (cdD_keys t.opens (tkN pre))
        simp at this
        omega
      have hsn := cdD_snoc t.opens (tkN pre) n
      have hns : nst t.opens ((tkN pre).length + 1) = num t.opens (tkN pre).length + 1 := rfl
      simp [fb_raw_standard_2, late, h2, Pw.ar]
      simp [e1, e3, h3]
      simp [pw, keyD, hp, hz, tkN_app, tkN, hsn, hns]
theorem raw_standard_eq {t : Tr} (g : GW t) (hs : t.size < 9000) : ff_raw_standard [.im (pws t.pre)] = .ok (.im (pws t.std.pre)) [.im (pws t.pre)] := by
  have h1 := raw_open_wk g hs
  obtain ⟨x1, hx1, e1⟩ := open_dict (fun x => [some (.im (pws t.pre)), none, none, none, none, x]) (fun x => rfl) (fun x d => rfl) (fun d => by simp) t.opens [] none (by simpa using (List.nodup_append.mp g.ot).1) (by have := t.opens_le; simp; omega)
  obtain ⟨x2, e2⟩ := std_loop g (by omega) t.pre [] none rfl
  have e3 := words_renamed_eq (kvs := cdD t.opens (tkN t.pre)) (sv := .dic (cdD t.opens (tkN t.pre))) (f := sg t.opens t.takes) (.inl rfl) (by rw [tkN_pre]; exact cdD_told g (by omega)) (by rw [t.pre_len]; omega)
  rw [← ren_pre] at e3
  have hlen : (t.opens).length ≤ 16777216 := by have := t.opens_le; omega
  have hc0 : cdD t.opens (tkN []) = opD t.opens := by simp [cdD, tkN]
  have hn0 : nst t.opens (tkN []).length = 0 := rfl
  rw [hc0, hn0] at e2
  have ho0 : opD [] = [] := rfl
  rw [ho0] at e1
  simp only [List.nil_append] at e1
  unfold pws at h1 e1 e2 e3 ⊢
  simp at e1 e2
  unfold Tr.std
  simp [ff_raw_standard, fDef_eq, fb_raw_standard, late, h1, e1, e2, e3]
end Once

/-! GN3: renamed, same. -/
namespace Once
open PySem PySem.Spec L2 OD F
theorem names_loop {i : Nat} {p : List Nat → Bool} {e : FE} (S : Option Sv → Sl) (hS : ∀ x, wipeF (S x) [i] = S none) (hset : ∀ x d, (S x).set i (some (.im d)) = S (some (.im d))) : ∀ (r : List (List Nat)) (acc : List D) (x : Option Sv), (∀ n ∈ r, e (S (some (.im (.str (mkS n))))) = .ok (.im (.bl (p n))) (S (some (.im (.str (mkS n)))))) → acc.length + r.length < 10000 →
    ∃ x', (x' = x ∨ ∃ d, x' = some (.im d)) ∧ lcL [i] (gName i) tYes e (r.map fun n => D.str (mkS n)) (S x) acc = .ok (acc ++ r.map fun n => D.bl (p n)) (S x') := by
  intro r
  induction r with
  | nil => intro acc x _ _; exact ⟨x, .inl rfl, by simp [lcL]⟩
  | cons n r ih =>
    intro acc x he hl
    rw [List.length_cons] at hl
    have hk : acc.length < 16777216 := by omega
    obtain ⟨x', hx, e1⟩ := ih (acc ++ [.bl (p n)]) (some (.im (.str (mkS n)))) (fun m hm => he m (by simp [hm])) (by simp; omega)
    refine ⟨x', ?_, ?_⟩
    · rcases hx with rfl | hx
      · exact .inr ⟨_, rfl⟩
      · exact .inr hx
    · rw [List.map_cons]
      unfold lcL
      rw [hS, show F.gName i (.str (mkS n)) (S none) = some (S (some (.im (.str (mkS n))))) from congrArg some (hset _ _)]
      have h0 := he n (by simp)
      simp at e1
      simp [h0, hk, e1]
theorem keysL_names {kvs : List (Key × D)} {ns : List (List Nat)} (h : kvs.map (·.1) = ns.map fun n => (Sum.inr (mkS n) : Key)) : keysL kvs = ns.map fun n => D.str (mkS n) := by
  have : keysL kvs = (kvs.map (·.1)).map keyV := by unfold keysL; rw [List.map_map]; rfl
  rw [this, h, List.map_map]
  rfl
theorem us_keys (t : Tr) : (usK 0 t.pre).map (·.1) = t.uses.map fun n => (Sum.inr (mkS n) : Key) := by
  rw [usK_keys]
  have key : ∀ s : Tr, s.pre.filter (fun w => decide (w.ar = 0)) = s.uses.map Pw.us := by
    intro s
    induction s with
    | us n => simp [Tr.pre, Tr.uses, ar0]
    | tk n b ih => simpa [Tr.pre, Tr.uses, ar1] using ih
    | gv l r ihl ihr => simp [Tr.pre, Tr.uses, ar2, ihl, ihr]
  rw [key t, List.map_map]
  rfl
/-- names as keys of a dict of flags -/
theorem flag_dict {i : Nat} {e : FE} {f : List Nat → List Nat} (S : Option Sv → Sl) (hS : ∀ x, wipeF (S x) [i] = S none) (hset : ∀ x d, (S x).set i (some (.im d)) = S (some (.im d))) : ∀ (r pre : List (List Nat)) (x : Option Sv), (∀ n ∈ r, e (S (some (.im (.str (mkS n))))) = .ok (.im (.str (mkS (f n)))) (S (some (.im (.str (mkS n)))))) → ((pre ++ r).map f).Nodup → (pre ++ r).length < 10000 →
    ∃ x', (x' = x ∨ ∃ d, x' = some (.im d)) ∧ dcL [i] (gName i) tYes e (fC (.bl true)) (r.map fun n => D.str (mkS n)) (S x) (pre.map fun n => (Sum.inr (mkS (f n)), D.bl true)) = .ok ((pre ++ r).map fun n => (Sum.inr (mkS (f n)), D.bl true)) (S x') := by
  intro r
  induction r with
  | nil => intro pre x _ _ _; exact ⟨x, .inl rfl, by simp [dcL]⟩
  | cons n r ih =>
    intro pre x he hn hl
    have ea : pre ++ n :: r = pre ++ [n] ++ r := by simp
    obtain ⟨x', hx, e1⟩ := ih (pre ++ [n]) (some (.im (.str (mkS n)))) (fun m hm => he m (by simp [hm])) (by rw [← ea]; exact hn) (by rw [← ea]; exact hl)
    refine ⟨x', ?_, ?_⟩
    · rcases hx with rfl | hx
      · exact .inr ⟨_, rfl⟩
      · exact .inr hx
    have hk : (Sum.inr (mkS (f n)) : Key) ∉ (pre.map fun n => ((Sum.inr (mkS (f n)) : Key), D.bl true)).map (·.1) := by
      rw [List.map_map]
      intro z
      obtain ⟨m, hm, e⟩ := List.mem_map.mp z
      have := key_inj (f m) (f n) e
      rw [List.map_append] at hn
      exact (List.nodup_append.mp hn).2.2 (f m) (List.mem_map.mpr ⟨m, hm, rfl⟩) (f n) (by simp) this
    have hp := putD_no (v := .bl true) hk
    have hs : pre.length < 16777216 := by simp at hl; omega
    rw [List.map_cons]
    unfold dcL
    rw [hS, show F.gName i (.str (mkS n)) (S none) = some (S (some (.im (.str (mkS n))))) from congrArg some (hset _ _)]
    have h0 := he n (by simp)
    simp only [List.append_assoc, List.singleton_append, List.map_append, List.map_cons, List.map_nil] at e1
    simp [h0, keyD, hp, hs, e1]
theorem eqW_ws2 {a b : List Pw} (ha : ∀ w ∈ a, w.ok) (hb : ∀ w ∈ b, w.ok) : eqW (.tup (a.map pw)) (.tup (b.map pw)) = some (decide (a = b)) := by
  by_cases h : a = b
  · subst h
    rw [eqW_ws a ha]
    simp
  · rw [eqW_not 1 (by decide) (pl_ws a ha) (pl_ws b hb) (fun z => h ?_)]
    · simp [h]
    · have z' : a.map pw = b.map pw := by injection z
      clear z
      induction a generalizing b with
      | nil => cases b with
        | nil => rfl
        | cons y b => cases z'
      | cons x a ih =>
        cases b with
        | nil => cases z'
        | cons y b =>
          rw [List.map_cons, List.map_cons, List.cons.injEq, pw_ss, pw_ss] at z'
          have hxy : x = y := ss_inj (ha x (by simp)) (hb y (by simp)) (by have := z'.1; injection this)
          subst hxy
          rw [ih (fun w hw => ha w (by simp [hw])) (fun w hw => hb w (by simp [hw])) (fun z => h (by rw [z])) z'.2]
theorem same_eq {c : Cs} {C C2 : Addr} {s t : Tr} (hC : c.Pb C = true) (hC2 : c.Pb C2 = true) (gs : Good s) (gt : Good t) (hs : s.size < 9000) (ht : t.size < 9000) : ff_same c [.im (prg C s.pre), .im (prg C2 t.pre)] = .ok (.im (.bl (decide (s.std = t.std)))) [.im (prg C s.pre), .im (prg C2 t.pre)] := by
  have h1 := raw_standard_eq gs.gw hs
  have h2 := raw_standard_eq gt.gw ht
  have h3 := eqW_ws2 (a := s.std.pre) (b := t.std.pre) (fun w hw => (gs.std (by omega)).ok_mem' w hw) (fun w hw => (gt.std (by omega)).ok_mem' w hw)
  simp only [pre_eq] at h3
  simp only [pws] at h1 h2
  simp [ff_same, fDef_eq, fb_same, late, prg, pws, hC, hC2, h1, h2, h3]
end Once

/-! FP24: part, taken_at. -/
namespace Once
open PySem PySem.Spec L2 OD F
theorem PbR (c : Cs) : c.Pb c.RawProgram = true := by simp [Cs.Pb]
theorem PbP (c : Cs) : c.Pb c.Program = true := by simp [Cs.Pb]
theorem is_integer_eq (n : Int) : ff_is_integer [.im (.int n)] = .ok (.im (.bl true)) [.im (.int n)] := by
  simp [ff_is_integer, fDef_eq, fb_is_integer, late]
theorem is_within_eq {n a b : Int} (h1 : a ≤ n) (h2 : n ≤ b) : ff_is_within [.im (.int n), .im (.int a), .im (.int b)] = .ok (.im (.bl true)) [.im (.int n), .im (.int a), .im (.int b)] := by
  simp [ff_is_within, fDef_eq, fb_is_within, late, is_integer_eq, h1, h2]
theorem check_place_eq {c : Cs} {C : Addr} {t : Tr} {p : Nat} (hC : c.Pb C = true) (hp : p < t.size) : ff_check_place c [.im (prg C t.pre), .im (.int (p : Nat))] = .ok (.im .non) [.im (prg C t.pre), .im (.int (p : Nat))] := by
  have h1 := is_within_eq (n := (p : Nat)) (a := 0) (b := (t.size : Int) - 1) (by omega) (by omega)
  simp [ff_check_place, fDef_eq, fb_check_place, late, prg, pws, hC, t.pre_len, h1]
theorem ni_cut {t s : Tr} {p : Nat} (h : t.at p = some s) : cutL (ni (t.ends 0)) (some (p : Nat)) (some ((p + s.size : Nat) : Int)) = ni (s.ends p) := by
  obtain ⟨A, q, h1, h2, h3⟩ := t.at_pre p s h
  have h4 := (h3 0).2
  have h5 := t.at_size h
  rw [cutL_mid _ _ _ (by omega) (by simp [ni, t.ends_len]; omega), Nat.add_sub_cancel_left]
  unfold ni
  rw [← List.map_drop, ← List.map_take, h4, Nat.zero_add]
theorem pw_cut {t s : Tr} {p : Nat} (h : t.at p = some s) : cutL (t.pre.map pw) (some (p : Nat)) (some ((p + s.size : Nat) : Int)) = s.pre.map pw := by
  have h5 := t.at_size h
  rw [cutL_mid _ _ _ (by omega) (by simp [t.pre_len]; omega), Nat.add_sub_cancel_left, ← List.map_drop, ← List.map_take, Tr.at_words h]
theorem ends_at {t s : Tr} {p : Nat} (h : t.at p = some s) : atI (ni (t.ends 0)) (p : Int) = some (.int ((p + s.size : Nat) : Int)) := by
  obtain ⟨A, q, h1, h2, h3⟩ := t.at_pre p s h
  have h4 := (h3 0).1
  rw [Nat.zero_add] at h4
  exact ni_at h4
theorem part_eq {c : Cs} {C : Addr} {t s : Tr} {p : Nat} (hC : c.Pb C = true) (g : Good t) (hl : t.size < 9000) (h : t.at p = some s) : ff_part c [.im (prg C t.pre), .im (.int (p : Nat))] = .ok (.im (prg c.RawProgram s.pre)) [.im (prg C t.pre), .im (.int (p : Nat))] := by
  have h5 := t.at_size h
  have h6 := s.size_pos
  have h1 := check_place_eq (c := c) (C := C) (t := t) (p := p) hC (by omega)
  have h2 := raw_ends_eq g.ok hl
  have h3 := ends_at h
  have h4 := pw_cut h
  have h7 := RawProgram_init_eq (c := c) (C := c.RawProgram) (ws := s.pre) (PbR c) (by rw [s.pre_len]; omega)
  simp only [prg, pws] at h1 h2 h7
  simp only [Int.natCast_add] at h3 h4
  simp [ff_part, fDef_eq, fb_part, late, prg, pws, hC, h1, h2, h3, h4, h7, made]
/-- what taken_at tells -/
def tka (ws : List Pw) (w : Pw) : D := match w with
  | .us n => (lookD (tkK 0 ws) (Sum.inr (mkS n))).getD .non
  | _ => .non
end Once

/-! GN4: programs set apart, applied, put in; standard. -/
namespace Once
open PySem PySem.Spec L2 OD F
theorem in_nmt (n : List Nat) (us : List (List Nat)) : inW (.str (mkS n)) (.tup (us.map fun n => D.str (mkS n))) = some (decide (n ∈ us)) := in_nms n us
theorem filt0 {α : Type} (l : List α) : (l.filter fun _ => false) = [] := by simp
theorem names_filter {i : Nat} {p : List Nat → Bool} {T : FT} (S : Option Sv → Sl) (hS : ∀ x, wipeF (S x) [i] = S none) (hset : ∀ x d, (S x).set i (some (.im d)) = S (some (.im d))) (hv : ∀ d, fVar i (S (some (.im d))) = .ok (.im d) (S (some (.im d)))) :
    ∀ (r : List (List Nat)) (acc : List D) (x : Option Sv), (∀ n ∈ r, T (S (some (.im (.str (mkS n))))) = .ok (p n) (S (some (.im (.str (mkS n)))))) → acc.length + r.length < 10000 → ∃ x', (x' = x ∨ ∃ d, x' = some (.im d)) ∧ lcL [i] (gName i) T (fVar i) (r.map fun n => D.str (mkS n)) (S x) acc = .ok (acc ++ (r.filter p).map fun n => D.str (mkS n)) (S x') := by
  intro r
  induction r with
  | nil => intro acc x _ _; exact ⟨x, .inl rfl, by simp [lcL]⟩
  | cons n r ih =>
    intro acc x hok hl
    rw [List.length_cons] at hl
    have hk : acc.length < 16777216 := by omega
    have h1 := hok n (by simp)
    cases hp : p n with
    | true =>
      obtain ⟨x', hx, e⟩ := ih (acc ++ [.str (mkS n)]) (some (.im (.str (mkS n)))) (fun z hz => hok z (by simp [hz])) (by simp; omega)
      refine ⟨x', .inr ?_, ?_⟩
      · rcases hx with rfl | hx
        · exact ⟨_, rfl⟩
        · exact hx
      · rw [List.map_cons]
        unfold lcL
        rw [hS, show F.gName i (.str (mkS n)) (S none) = some (S (some (.im (.str (mkS n))))) from congrArg some (hset _ _)]
        dsimp only
        rw [h1, hp, nox_ok, ok_bind, if_pos rfl, hv, nox_ok, ok_bind]
        simp [hk, e, hp]
    | false =>
      obtain ⟨x', hx, e⟩ := ih acc (some (.im (.str (mkS n)))) (fun z hz => hok z (by simp [hz])) (by omega)
      refine ⟨x', .inr ?_, ?_⟩
      · rcases hx with rfl | hx
        · exact ⟨_, rfl⟩
        · exact hx
      · rw [List.map_cons]
        unfold lcL
        rw [hS, show F.gName i (.str (mkS n)) (S none) = some (S (some (.im (.str (mkS n))))) from congrArg some (hset _ _)]
        dsimp only
        rw [h1, hp, nox_ok, ok_bind]
        simp [e, hp]
def barD (ns : List (List Nat)) : List (Key × D) := ns.map fun n => (Sum.inr (mkS n), D.bl true)
theorem barD_keys (ns : List (List Nat)) : (barD ns).map (·.1) = ns.map fun n => (Sum.inr (mkS n) : Key) := by
  unfold barD
  rw [List.map_map]
  rfl
theorem apart_loop {t : Tr} (g : Good t) (m : Nat) : ∀ (r : List Pw) (acc : List D) (x : Option Sv), (∀ w ∈ r, w ∈ t.pre) → acc.length + r.length < 10000 →
    ∃ x', forL (gName 4) fb_apart_1 (r.map pw) [some (.im (pws t.pre)), some (.im (.str (mkS [m]))), some (.im (.dic (barD t.opens))), some (.lst acc), x, none] = .nx [some (.im (pws t.pre)), some (.im (.str (mkS [m]))), some (.im (.dic (barD t.opens))), some (.lst (acc ++ (r.map (Pw.ren (mk m t.opens))).map pw)), x', none] := by
  intro r
  induction r with
  | nil => intro acc x _ _; exact ⟨x, by simp [forL]⟩
  | cons w r ih =>
    intro acc x h hl
    rw [List.length_cons] at hl
    have hm := h w (by simp)
    have hw : w.ok := g.ok_mem' w hm
    obtain ⟨x', e⟩ := ih (acc ++ [pw (w.ren (mk m t.opens))]) (some (.im (pw w))) (fun v hv => h v (by simp [hv])) (by simp; omega)
    refine ⟨x', ?_⟩
    have hk : acc.length < 16777216 := by omega
    rw [List.map_cons, forL_step (s1 := [some (.im (pws t.pre)), some (.im (.str (mkS [m]))), some (.im (.dic (barD t.opens))), some (.lst acc), some (.im (pw w)), none]) (s2 := [some (.im (pws t.pre)), some (.im (.str (mkS [m]))), some (.im (.dic (barD t.opens))), some (.lst (acc ++ [pw (w.ren (mk m t.opens))])), some (.im (pw w)), none]) (by simp) ?_, e]
    · simp
    · have h1 := is_give_wk hw.wk
      have h2 := is_take_wk hw.wk
      have h3 := name_of_wk hw.wk
      cases w with
      | gv => simp [fb_apart_1, late, h1, Pw.ren, hk]
      | tk n =>
        simp only [pw] at h1 h2 h3
        have hn : n ∉ t.opens := fun z => (mem_opens.mp z).2 ((t.mem_takes n).mpr hm)
        have h4 := in_names (barD_keys t.opens) n
        have hl1 : 1 + (1 + n.length) ≤ 16777216 := by have := hw.2.1; omega
        have hl2 : 2 + n.length ≤ 16777216 := by have := hw.2.1; omega
        have hl3 : 1 + 1 + n.length ≤ 16777216 := by have := hw.2.1; omega
        simp [fb_apart_1, late, pw, h1, h2, h3, Pw.ar, h4, hn, mk_not hn, Pw.ren, s_sl, hk, hl1, hl2, hl3]
      | us n =>
        simp only [pw] at h1 h2 h3
        have h4 := in_names (barD_keys t.opens) n
        have hl1 : 1 + n.length ≤ 16777216 := by have := hw.2.1; omega
        by_cases hn : n ∈ t.opens
        · simp [fb_apart_1, late, pw, h1, h2, h3, Pw.ar, h4, hn, mk_open hn, Pw.ren, hk]
        · simp [fb_apart_1, late, pw, h1, h2, h3, Pw.ar, h4, hn, mk_not hn, Pw.ren, hk, hl1]
theorem apart_eq {t : Tr} (g : Good t) (hl : t.size < 9000) (m : Nat) : ff_apart [.im (pws t.pre), .im (.str (mkS [m]))] = .ok (.im (pws (t.ren (mk m t.opens)).pre)) [.im (pws t.pre), .im (.str (mkS [m]))] := by
  have h1 := raw_open_wk g.gw hl
  have ol := t.opens_le
  obtain ⟨x1, hx1, e1⟩ := flag_dict (i := 5) (f := fun n => n) (e := fVar 5) (fun x => [some (.im (pws t.pre)), some (.im (.str (mkS [m]))), none, none, none, x]) (fun x => rfl) (fun x d => rfl) t.opens [] none (fun n hn => by simp) (by simpa using (List.nodup_append.mp g.gw.ot).1) (by simp; omega)
  obtain ⟨x2, e2⟩ := apart_loop g m t.pre [] none (fun w hw => hw) (by rw [t.pre_len]; simp; omega)
  have hz : t.pre.length ≤ 16777216 := by rw [t.pre_len]; omega
  have hb : t.opens.map (fun n => ((Sum.inr (mkS n) : Key), D.bl true)) = barD t.opens := rfl
  rw [ren_pre]
  simp only [List.nil_append, hb, List.map_nil] at e1 e2
  unfold pws at h1 e1 e2 ⊢
  simp [-List.map_map, ff_apart, fDef_eq, fb_apart, late, h1, e1, e2, hz]
theorem s_1 : (Str.ofString "1" : Str) = mkS [49] := by decide +kernel
theorem s_2 : (Str.ofString "2" : Str) = mkS [50] := by decide +kernel
theorem put_in_eq {c : Cs} {C C2 : Addr} {t u : Tr} {x : List Nat} (hC : c.Pb C = true) (hC2 : c.Pb C2 = true) (gt : Good t) (gu : Good u) (ht : t.size < 4000) (hu : u.size < 4000) (hx : x ∈ t.opens) (hd : ∀ n ∈ u.opens, n ∈ t.opens → n = x) :
    ff_put_in c [.im (prg C t.pre), .im (.str (mkS x)), .im (prg C2 u.pre)] = .ok (.im (prg c.RawProgram (PuT t x u).std.pre)) [.im (prg C t.pre), .im (.str (mkS x)), .im (prg C2 u.pre)] := by
  have h1 := raw_open_wk gt.gw (show t.size < 9000 by omega)
  have h2 := raw_open_wk gu.gw (show u.size < 9000 by omega)
  have h3 := apart_eq gt (show t.size < 9000 by omega) 49
  have h4 := apart_eq gu (show u.size < 9000 by omega) 50
  obtain ⟨ga, go⟩ := pu_gw gt gu hx hd
  have g1 := m_gw gt (m := 49) (by omega) (by omega) (by omega)
  have hxu := m1_mem hx
  have sz : (PuT t x u).size + 1 = t.size + u.size := by
    have := sub_size (u := u.m2) g1.un hxu
    rw [ren_size, ren_size] at this
    exact this
  have h5 := raw_standard_eq ga (by omega)
  have h6 := RawProgram_init_eq (c := c) (C := c.RawProgram) (ws := (PuT t x u).std.pre) (PbR c) (by rw [Tr.pre_len, std_size]; omega)
  have h7 := is_name_eq (open_okn gt hx)
  have h8 := in_nmt x t.opens
  have ol := u.opens_le
  obtain ⟨x1, hx1, e1⟩ := names_filter (i := 6) (p := fun _ => false) (T := fAnd (fTest (fOp (inF false) (oV 6) (oV 3))) (fTest (fOp (eqF true) (oV 6) (oV 1)))) (fun z => [some (.im (prg C t.pre)), some (.im (.str (mkS x))), some (.im (prg C2 u.pre)), some (.im (.tup (t.opens.map fun n => D.str (mkS n)))), none, none, z]) (fun x => rfl) (fun x d => rfl) (fun d => by simp) u.opens [] none (fun n hn => by
    have a := in_nmt n t.opens
    by_cases hm : n ∈ t.opens
    · have := hd n hn hm
      subst this
      simp [late, a, hm]
    · simp [late, a, hm]) (by simp; omega)
  have hok : ∀ w ∈ t.pre, w.ok := fun w hw => gt.ok_mem' w hw
  have h9 := uses_eq hok gt.nd (by rw [t.pre_len]; omega)
  obtain ⟨A, B, e2, _, _, e3⟩ := sub_pre (u := u.m2) g1.un hxu
  have hat : t.pre[A.length]? = some (.us x) := by
    have h := congrArg (·[A.length]?) e2
    simp only [ren_pre, List.getElem?_map] at h
    rw [List.getElem?_append_right (Nat.le_refl _), Nat.sub_self] at h
    simp only [List.getElem?_cons_zero] at h
    cases hw : t.pre[A.length]? with
    | none => rw [hw] at h; cases h
    | some w =>
      rw [hw] at h
      simp only [Option.map_some, Option.some.injEq] at h
      cases w with
      | gv => cases h
      | tk n => cases h
      | us n =>
        have hn : mk 49 t.opens n = x := by injection h
        by_cases ho : n ∈ t.opens
        · rw [mk_open ho] at hn; rw [hn]
        · rw [mk_not ho] at hn
          exact absurd hn.symm (okn_ne (open_okn gt hx) (by omega))
  have h10 := lookD_of (usK_nodup hok gt.nd 0) (usK_mem t.pre 0 A.length x hat)
  rw [Nat.zero_add] at h10
  have hlen : A.length + (B.length + 1) = t.size := by
    have := congrArg List.length e2
    simp [Tr.pre_len, ren_size] at this
    omega
  have hm : t.m1.pre.map pw = A.map pw ++ pw (.us x) :: B.map pw := by rw [show t.m1.pre = A ++ Pw.us x :: B from e2]; simp
  have c1 : cutL (t.m1.pre.map pw) none (some (A.length : Int)) = A.map pw := by
    rw [cutL_pre, hm]
    simp
  have c2 : cutL (t.m1.pre.map pw) (some ((A.length : Int) + 1)) none = B.map pw := by
    have := cutL_suf (t.m1.pre.map pw) (A.length + 1)
    rw [hm] at this ⊢
    have e : (A.map pw ++ pw (.us x) :: B.map pw).drop (A.length + 1) = B.map pw := by
      rw [show A.map pw ++ pw (.us x) :: B.map pw = (A.map pw ++ [pw (.us x)]) ++ B.map pw by simp]
      exact List.drop_left' (by simp)
    rw [e] at this
    exact this
  have hw : D.tup (A.map pw ++ u.m2.pre.map pw ++ B.map pw) = pws (PuT t x u).pre := by
    unfold PuT pws
    rw [show (t.m1.sub x u.m2).pre = A ++ (u.m2.pre ++ B) from e3]
    simp
  have hul : u.m2.pre.length = u.size := by rw [Tr.pre_len, ren_size]
  have hz1 : A.length + u.m2.pre.length ≤ 16777216 := by omega
  have hz2 : A.length + u.m2.pre.length + B.length ≤ 16777216 := by omega
  have hz3 : A.length + (u.m2.pre.length + B.length) ≤ 16777216 := by omega
  simp only [prg, filt0, List.map_nil, List.append_nil] at e1 h6
  simp only [pws] at h1 h2 h3 h4 h5 h6 h9 e1 hw
  rw [← hw] at h5
  simp only [List.append_assoc] at h5
  simp [ff_put_in, fDef_eq, fb_put_in, late, prg, pws, hC, hC2, s_1, s_2, h1, h2, h7, h8, hx, e1, h9, keyD, h10, h3, h4, c1, c2, hz1, hz2, hz3, h5, h6, made]
theorem standard_eq {c : Cs} {C : Addr} {t : Tr} (hC : c.Pb C = true) (g : GW t) (hs : t.size < 9000) : ff_standard c [.im (prg C t.pre)] = .ok (.im (prg c.RawProgram t.std.pre)) [.im (prg C t.pre)] := by
  have h1 := raw_standard_eq g hs
  have h2 := RawProgram_init_eq (c := c) (C := c.RawProgram) (ws := t.std.pre) (PbR c) (by rw [Tr.pre_len, std_size]; omega)
  simp only [prg, pws] at h1 h2
  simp [ff_standard, fDef_eq, fb_standard, late, prg, pws, hC, h1, h2, made]
end Once

/-! GN5: steps. -/
namespace Once
open PySem PySem.Spec L2 OD F
/-- whether a step stands at a place -/
def stp (ws : List Pw) (p : Nat) : Bool := match ws[p]?, ws[p + 1]? with
  | some .gv, some (.tk _) => true
  | _, _ => false
theorem cut_at {xs X Y Z : List D} (h : xs = X ++ (Y ++ Z)) {a b : Int} (ha : a = (X.length : Nat)) (hb : b = ((X.length + Y.length : Nat) : Int)) : cutL xs (some a) (some b) = Y := by
  subst ha hb h
  rw [cutL_mid _ _ _ (by omega) (by simp), Nat.add_sub_cancel_left, List.drop_left' rfl, List.take_left' rfl]
theorem cut_hd {xs X Y : List D} (h : xs = X ++ Y) {a : Int} (ha : a = (X.length : Nat)) : cutL xs none (some a) = X := by
  subst ha h
  rw [cutL_pre, List.take_left' rfl]
theorem cut_tl {xs X Y : List D} (h : xs = X ++ Y) {a : Int} (ha : a = (X.length : Nat)) : cutL xs (some a) none = Y := by
  subst ha h
  rw [cutL_suf, List.drop_left' rfl]
theorem stp_at {t b o : Tr} {y : List Nat} {p : Nat} (h : t.at p = some (.gv (.tk y b) o)) : stp t.pre p = true ∧ p + 1 < t.pre.length := by
  obtain ⟨⟨A, q, a1, a2, a3⟩, _⟩ := put_all t p _ h
  have h1 : t.pre[p]? = some .gv := by rw [a1, ← a2]; simp [Tr.pre]
  have h2 : t.pre[p + 1]? = some (.tk y) := by rw [a1, ← a2]; simp [Tr.pre]
  refine ⟨?_, (List.getElem?_eq_some_iff.mp h2).1⟩
  unfold stp
  rw [h1, h2]
end Once

/-! PC: steps of trees. -/
namespace Once
open PySem PySem.Spec L2 OD F
theorem ok_of_mem : ∀ {t : Tr}, (∀ w ∈ t.pre, w.ok) → t.ok := by
  intro t
  induction t with
  | us n => intro h; exact h (.us n) (by simp [Tr.pre])
  | tk n b ih => intro h; exact ⟨h (.tk n) (by simp [Tr.pre]), ih fun w hw => h w (by simp [Tr.pre, hw])⟩
  | gv l r ihl ihr => intro h; exact ⟨ihl fun w hw => h w (by simp [Tr.pre, hw]), ihr fun w hw => h w (by simp [Tr.pre, hw])⟩
/-- what a step comes to -/
def stT (t : Tr) (p : Nat) (y : List Nat) (b o : Tr) : Tr := t.put p (b.sub y o)
theorem step_parts {t b o : Tr} {y : List Nat} {p : Nat} (g : Good t) (h : t.at p = some (.gv (.tk y b) o)) : y ∈ b.uses ∧ b.uses.Nodup ∧ y ∉ b.takes ∧ y ∉ o.uses ∧ y ∉ o.takes := by
  have gs := (g.at h).gw
  have hy : y ∈ b.uses := (b.mem_uses y).mpr gs.cl.1.1
  obtain ⟨n1, n2, n3⟩ := List.nodup_append.mp (show (b.uses ++ o.uses).Nodup from gs.un)
  have tn : (y :: (b.takes ++ o.takes)).Nodup := gs.tn
  rw [List.nodup_cons] at tn
  exact ⟨hy, n1, fun z => tn.1 (by simp [z]), fun z => n3 y hy y z rfl, fun z => tn.1 (by simp [z])⟩
theorem perm_mid {α : Type} {A B C D : List α} (h : List.Perm B C) : List.Perm (A ++ (B ++ D)) (A ++ (C ++ D)) := (h.append_right D).append_left A
theorem step_uses {t b o : Tr} {y : List Nat} {p : Nat} (g : Good t) (h : t.at p = some (.gv (.tk y b) o)) : List.Perm (stT t p y b o).uses (t.uses.erase y) ∧ List.Perm (stT t p y b o).takes (t.takes.erase y) := by
  obtain ⟨hy, hb, hyb, hyo, hyo2⟩ := step_parts g h
  obtain ⟨_, ⟨A, q, a1, a2⟩, ⟨C, w, c1, c2⟩, _⟩ := put_all t p _ h
  have un := g.nd2.1
  have tn := g.nd2.2
  have a1' : t.uses = A ++ ((b.uses ++ o.uses) ++ q) := a1
  have c1' : t.takes = C ++ ((y :: (b.takes ++ o.takes)) ++ w) := c1
  rw [a1'] at un
  rw [c1'] at tn
  obtain ⟨u1, u2, u3⟩ := List.nodup_append.mp un
  obtain ⟨t1, t2, t3⟩ := List.nodup_append.mp tn
  have hyA : y ∉ A := fun z => u3 y z y (by simp [hy]) rfl
  have hyC : y ∉ C := fun z => t3 y z y (by simp) rfl
  refine ⟨?_, ?_⟩
  · rw [stT, a2, a1', List.erase_append_right _ hyA, List.erase_append_left _ (by simp [hy]), List.erase_append_left _ hy]
    exact perm_mid (sub_uses hb hy)
  · rw [stT, c2, c1', List.erase_append_right _ hyC, List.cons_append, List.erase_cons_head]
    exact perm_mid (sub_takes hb hy)
theorem step_good {t b o : Tr} {y : List Nat} {p : Nat} (g : Good t) (h : t.at p = some (.gv (.tk y b) o)) : Good (stT t p y b o) := by
  obtain ⟨hy, hb, hyb, hyo, hyo2⟩ := step_parts g h
  obtain ⟨pu, pt⟩ := step_uses g h
  obtain ⟨⟨A, q, a1, a2, a3⟩, _⟩ := put_all t p _ h
  obtain ⟨B1, B2, e1, _, _, e2⟩ := sub_pre (u := o) hb hy
  have gs := g.at h
  refine good_of (ok_of_mem fun w hw => g.ok_mem' w ?_) ?_ (pu.nodup_iff.mpr (g.nd2.1.erase y)) (pt.nodup_iff.mpr (g.nd2.2.erase y))
  · rw [stT, a3, e2] at hw
    rw [a1]
    simp only [Tr.pre, e1, List.mem_append, List.mem_cons] at hw ⊢
    rcases hw with hw | (hw | hw | hw) | hw
    · exact .inl hw
    · exact .inr (.inl (.inr (.inl (.inr (.inl hw)))))
    · exact .inr (.inl (.inr (.inr hw)))
    · exact .inr (.inl (.inr (.inl (.inr (.inr (.inr hw))))))
    · exact .inr (.inr hw)
  · refine put_cl (sub_cl gs.cl.2 gs.cl.1.2 hyb) t p h g.cl g.nd2.2 fun n hn hns hnu => ?_
    have hne : n ≠ y := fun z => hns (by simp [Tr.takes, z])
    have hnu : n ∈ b.uses ++ o.uses := hnu
    refine (sub_uses hb hy).mem_iff.mpr ?_
    simp only [List.mem_append] at hnu ⊢
    rcases hnu with hnu | hnu
    · exact .inl ((List.mem_erase_of_ne hne).mpr hnu)
    · exact .inr hnu
theorem step_size {t b o : Tr} {y : List Nat} {p : Nat} (g : Good t) (h : t.at p = some (.gv (.tk y b) o)) : (stT t p y b o).size + 3 = t.size := by
  obtain ⟨hy, hb, _⟩ := step_parts g h
  have h1 := put_size (s' := b.sub y o) h
  have h2 := sub_size (u := o) hb hy
  simp only [Tr.size] at h1
  unfold stT
  omega
theorem step_gives {t b o : Tr} {y : List Nat} {p : Nat} (g : Good t) (h : t.at p = some (.gv (.tk y b) o)) : (stT t p y b o).gives + 1 = t.gives := by
  obtain ⟨hy, hb, _⟩ := step_parts g h
  obtain ⟨_, _, _, ⟨k, d1, d2⟩⟩ := put_all t p _ h
  have h2 := sub_gives (u := o) hb hy
  have h3 : (Tr.gv (.tk y b) o).gives = b.gives + o.gives + 1 := rfl
  rw [stT, d2]
  omega
/-! ### a program that takes a name, given another one -/
theorem tk_good {t : Tr} {x : List Nat} (g : Good t) (hx : x ∈ t.opens) : Good (.tk x t) ∧ (∀ n, n ∈ (Tr.tk x t).opens ↔ n ∈ t.opens ∧ n ≠ x) := by
  obtain ⟨h1, h2⟩ := mem_opens.mp hx
  refine ⟨good_of ⟨uses_okn g h1, g.ok⟩ ⟨(t.mem_uses x).mp h1, g.cl⟩ g.nd2.1 (List.nodup_cons.mpr ⟨h2, g.nd2.2⟩), fun n => ?_⟩
  rw [mem_opens, mem_opens]
  simp only [Tr.uses, Tr.takes, List.mem_cons, not_or]
  constructor
  · rintro ⟨a, b, d⟩; exact ⟨⟨a, d⟩, b⟩
  · rintro ⟨⟨a, d⟩, b⟩; exact ⟨a, b, d⟩
/-- a step behind the giving, and the putting in: the same tree, but for names -/
theorem ap_step {t u : Tr} {x : List Nat} (gt : Good t) (gu : Good u) (hx : x ∈ t.opens) (hd : ∀ n ∈ u.opens, n ∈ t.opens → n = x) (hs : t.size + u.size ≤ 9000) :
    ∃ y b o, (ApT (.tk x t) u).std = .gv (.tk y b) o ∧ (b.sub y o).std = (PuT t x u).std := by
  obtain ⟨gT, oT⟩ := tk_good gt hx
  have hd' : ∀ n ∈ (Tr.tk x t).opens, n ∉ u.opens := fun n hn z => by
    obtain ⟨a, b⟩ := (oT n).mp hn
    exact b (hd n z a)
  obtain ⟨gW, oW⟩ := ap_gw gT gu hd'
  obtain ⟨gP, oP⟩ := pu_gw gt gu hx hd
  obtain ⟨W, hW⟩ : ∃ W, W = ApT (.tk x t) u := ⟨_, rfl⟩
  rw [← hW] at gW oW ⊢
  have szW : W.size ≤ 10000 := by
    rw [hW]
    simp only [ApT, Tr.size, ren_size]
    omega
  obtain ⟨σ, hσ⟩ : ∃ σ, σ = sg W.opens W.takes := ⟨_, rfl⟩
  have si : InjOn σ W.uses := by rw [hσ]; exact sg_inj gW szW
  have hxt : x ∉ t.takes := (mem_opens.mp hx).2
  have hxo : okn x := open_okn gt hx
  have hxT : x ∉ (Tr.tk x t).opens := fun z => ((oT x).mp z).2 rfl
  -- the marked body
  obtain ⟨μ, hμ⟩ : ∃ μ, μ = mk 49 (Tr.tk x t).opens := ⟨_, rfl⟩
  have hWe : W = .gv (.tk (49 :: x) (t.ren μ)) u.m2 := by
    rw [hW, hμ]
    show Tr.gv (.tk (mk 49 (Tr.tk x t).opens x) _) _ = _
    rw [mk_not hxT]
  have key : (t.ren μ).sub (49 :: x) u.m2 = PuT t x u := by
    obtain ⟨g, hg⟩ : ∃ g : List Nat → List Nat, g = fun n => if n = x then 49 :: x else n := ⟨_, rfl⟩
    have gx : g x = 49 :: x := by rw [hg]; simp
    have gn : ∀ n, n ≠ x → g n = n := fun n h => by rw [hg]; simp [h]
    have e : t.ren μ = t.m1.ren g := by
      rw [ren_ren]
      have main : ∀ n ∈ t.uses, μ n = g (mk 49 t.opens n) := fun n hn => by
        by_cases h1 : n = x
        · subst h1
          rw [mk_open hx, gx, hμ, mk_not hxT]
        · by_cases h2 : n ∈ t.opens
          · rw [mk_open h2, gn n h1, hμ, mk_open ((oT n).mpr ⟨h2, h1⟩)]
          · rw [mk_not h2, gn _ (fun z => okn_ne hxo (by omega : 49 < 97) z.symm), hμ, mk_not fun z => h2 ((oT n).mp z).1]
      exact ren_cong t main fun n hn => main n (t.cl_takes gt.cl n hn)
    rw [e, ← gx]
    refine sub_name (fun n hn hne => ⟨gn n hne, fun z => ?_⟩) fun n hn => gn n fun z => ?_
    · rw [gx] at z
      rcases m_use hn with a | ⟨k, e2, hk⟩
      · exact okn_ne (open_okn gt a) (by omega : 49 < 97) z
      · rw [e2] at z
        have := (List.cons.inj z).2
        subst this
        exact hxt hk
    · rw [mtakes] at hn
      obtain ⟨k, _, e2⟩ := List.mem_map.mp hn
      exact okn_ne hxo (by omega : 49 < 97) (by rw [← z, ← e2])
  have hmu : ∀ n ∈ (t.ren μ).uses, n ∈ W.uses := fun n hn => by rw [hWe]; simp [Tr.uses, hn]
  have hx1 : (49 :: x) ∈ (t.ren μ).uses := by
    rw [ren_uses]
    refine List.mem_map.mpr ⟨x, (mem_opens.mp hx).1, ?_⟩
    rw [hμ, mk_not hxT]
  refine ⟨σ (49 :: x), (t.ren μ).ren σ, u.m2.ren σ, ?_, ?_⟩
  · unfold Tr.std
    rw [← hσ, hWe]
    rfl
  · rw [← sub_ren (f := σ) (fun n hn e => si n (hmu n hn) _ (hmu _ hx1) e), key]
    refine (std_ren gP fun a ha b hb e => ?_).mpr fun n hn => ?_
    · have up : ∀ n ∈ (PuT t x u).uses, n ∈ W.uses := fun n hn => by
        have un : (t.ren μ).uses.Nodup := by
          have := gW.un
          rw [hWe] at this
          exact (List.nodup_append.mp this).1
        rw [← key] at hn
        have := (sub_uses (u := u.m2) un hx1).mem_iff.mp hn
        rcases List.mem_append.mp this with h | h
        · exact hmu n (List.mem_of_mem_erase h)
        · rw [hWe]; simp [Tr.uses, h]
      exact si a (up a ha) b (up b hb) e
    · have hn' := (oP n hn).1
      rw [hσ]
      unfold sg
      rw [if_neg fun z => ?_]
      rw [hWe] at z
      simp only [Tr.takes, List.mem_cons, List.mem_append] at z
      rcases z with (z | z) | z
      · exact okn_ne hn' (by omega : 49 < 97) z
      · rw [ren_takes] at z
        obtain ⟨k, hk, e⟩ := List.mem_map.mp z
        rw [hμ, mk_not fun z2 => (mem_opens.mp ((oT k).mp z2).1).2 hk] at e
        exact okn_ne hn' (by omega : 49 < 97) e.symm
      · rw [mtakes] at z
        obtain ⟨k, hk, e⟩ := List.mem_map.mp z
        exact okn_ne hn' (by omega : 50 < 97) e.symm
end Once

/-! GD1: things drawn. -/
namespace Once
open PySem PySem.Spec L2 OD F
theorem law_any_eq {c : PotC} {xs : List D} (hc : c.ss ≠ []) (h0 : 0 < xs.length) (hl : xs.length < 1000000) : ∃ (c' : PotC) (d : D), c'.ss ≠ [] ∧ d ∈ xs ∧ ff_law_any [.pot c, .im (.lst xs)] = .ok (.im d) [.pot c', .im (.lst xs)] := by
  obtain ⟨r, c1, k1, l1, e1⟩ := draw_nat (n := xs.length) hc h0 (Nat.lt_trans hl (by decide))
  have a : atI xs (r : Int) = some xs[r] := atI_nat (List.getElem?_eq_getElem l1)
  refine ⟨c1, xs[r], k1, List.getElem_mem _, ?_⟩
  simp [ff_law_any, fDef_eq, fb_law_any, late, e1, a]
theorem Program_eq_eq {c : Cs} {C C2 : Addr} {ws : List Pw} (hC : c.Pb C = true) (hC2 : c.Pb C2 = true) (hr : c.rel (.ref C2) c.Program = some true) (h : ∀ w ∈ ws, w.ok) : ff_Program_eq c [.im (prg C ws), .im (prg C2 ws)] = .ok (.im (.bl true)) [.im (prg C ws), .im (prg C2 ws)] := by
  have h1 := eqW_ws ws h
  simp [ff_Program_eq, fDef_eq, fb_Program_eq, late, prg, pws, hC, hC2, h1, hr]
end Once

/-! PD: parts put back. -/
namespace Once
open PySem PySem.Spec L2 OD F
theorem at_lt {t s : Tr} {p : Nat} (h : t.at p = some s) : p < t.size := by
  have := t.at_size h
  have := s.size_pos
  omega
theorem put_same {s' : Tr} : ∀ (t : Tr) (p : Nat), p < t.size → (t.put p s').at p = some s' := by
  intro t
  induction t with
  | us n =>
    intro p h
    have : p = 0 := by simp [Tr.size] at h; omega
    subst this
    rw [put_zero, Tr.at_zero]
  | tk n b ih =>
    intro p h
    cases p with
    | zero => rw [put_zero, Tr.at_zero]
    | succ p => exact ih p (by simp [Tr.size] at h; omega)
  | gv l r ihl ihr =>
    intro p h
    simp only [Tr.size] at h
    cases p with
    | zero => rw [put_zero, Tr.at_zero]
    | succ p =>
      rw [put_gv]
      by_cases hp : p < l.size
      · rw [if_pos hp, at_gv]
        have h2 := ihl p hp
        have h3 := at_lt h2
        rw [if_pos h3, h2]
      · rw [if_neg hp, at_gv, if_neg hp]
        exact ihr _ (by omega)
theorem put_put {s s' w : Tr} : ∀ (t : Tr) (p : Nat), t.at p = some s → (t.put p s').put p w = t.put p w := by
  intro t
  induction t with
  | us n =>
    intro p h
    cases p with
    | zero => rw [put_zero, put_zero]
    | succ p => cases h
  | tk n b ih =>
    intro p h
    cases p with
    | zero => rw [put_zero, put_zero]
    | succ p => simp only [Tr.put]; rw [ih p h]
  | gv l r ihl ihr =>
    intro p h
    cases p with
    | zero => rw [put_zero, put_zero]
    | succ p =>
      rw [at_gv] at h
      rw [put_gv, put_gv]
      by_cases hp : p < l.size
      · rw [if_pos hp] at h ⊢
        rw [if_pos hp]
        have h3 : p < (l.put p s').size := at_lt (put_same l p hp)
        rw [put_gv, if_pos h3, ihl p h]
      · rw [if_neg hp] at h ⊢
        rw [if_neg hp]
        rw [put_gv, if_neg hp, ihr _ h]
/-- a part's open names are open in the whole -/
def Fre (t s : Tr) : Prop := ∀ n ∈ s.opens, n ∈ t.opens
/-- a new name in the place of a part -/
theorem cut_good {t s : Tr} {p : Nat} {y : List Nat} (g : Good t) (h : t.at p = some s) (hf : Fre t s) (hy : okn y) (hyu : y ∉ t.uses) :
    Good (t.put p (.us y)) ∧ y ∈ (t.put p (.us y)).opens ∧ (∀ n ∈ (t.put p (.us y)).opens, n = y ∨ n ∈ t.opens ∧ n ∉ s.uses) ∧ (∀ n ∈ (t.put p (.us y)).takes, n ∈ t.takes ∧ n ∉ s.takes) ∧ (∀ n ∈ (t.put p (.us y)).uses, n = y ∨ n ∈ t.uses ∧ n ∉ s.uses) := by
  obtain ⟨⟨W, V, w1, w2, w3⟩, ⟨A, q, a1, a2⟩, ⟨C, w, c1, c2⟩, _⟩ := put_all t p _ h
  have gs := g.at h
  have un := g.nd2.1
  have tn := g.nd2.2
  have hyt : y ∉ t.takes := fun z => hyu (t.cl_takes g.cl y z)
  have un0 := un
  have tn0 := tn
  rw [a1] at un
  rw [c1] at tn
  obtain ⟨u1, u2, u3⟩ := List.nodup_append.mp un
  obtain ⟨u4, u5, u6⟩ := List.nodup_append.mp u2
  obtain ⟨t1, t2, t3⟩ := List.nodup_append.mp tn
  obtain ⟨t4, t5, t6⟩ := List.nodup_append.mp t2
  have eu : (t.put p (.us y)).uses = A ++ (y :: q) := by rw [a2]; rfl
  have et : (t.put p (.us y)).takes = C ++ w := by rw [c2]; simp [Tr.takes]
  have hus : ∀ n ∈ (t.put p (.us y)).uses, n = y ∨ n ∈ t.uses ∧ n ∉ s.uses := by
    intro n hn
    rw [eu] at hn
    simp only [List.mem_append, List.mem_cons] at hn
    rcases hn with hn | hn | hn
    · exact .inr ⟨by rw [a1]; simp [hn], fun z => u3 n hn n (by simp [z]) rfl⟩
    · exact .inl hn
    · exact .inr ⟨by rw [a1]; simp [hn], fun z => u6 n z n hn rfl⟩
  have htk : ∀ n ∈ (t.put p (.us y)).takes, n ∈ t.takes ∧ n ∉ s.takes := by
    intro n hn
    rw [et] at hn
    rcases List.mem_append.mp hn with hn | hn
    · exact ⟨by rw [c1]; simp [hn], fun z => t3 n hn n (by simp [z]) rfl⟩
    · exact ⟨by rw [c1]; simp [hn], fun z => t6 n z n hn rfl⟩
  refine ⟨good_of (ok_of_mem fun v hv => ?_) (put_cl (s' := .us y) trivial t p h g.cl g.nd2.2 fun n hn hns hnu => ?_) ?_ ?_, ?_, ?_, htk, hus⟩
  · rw [w3] at hv
    rcases List.mem_append.mp hv with hv | hv
    · exact g.ok_mem' v (by rw [w1]; simp [hv])
    · rcases List.mem_append.mp hv with hv | hv
      · simp [Tr.pre] at hv; subst hv; exact hy
      · exact g.ok_mem' v (by rw [w1]; simp [hv])
  · exact absurd hn (mem_opens.mp (hf n (mem_opens.mpr ⟨hnu, hns⟩))).2
  · rw [eu]
    refine List.nodup_append.mpr ⟨u1, List.nodup_cons.mpr ⟨fun z => hyu (by rw [a1]; simp [z]), u5⟩, fun a ha b hb e => ?_⟩
    subst e
    rcases List.mem_cons.mp hb with hb | hb
    · subst hb; exact hyu (by rw [a1]; simp [ha])
    · exact u3 a ha a (by simp [hb]) rfl
  · rw [et]
    exact List.nodup_append.mpr ⟨t1, t5, fun a ha b hb => t3 a ha b (by simp [hb])⟩
  · refine mem_opens.mpr ⟨by rw [eu]; simp, fun z => hyt (htk y z).1⟩
  · intro n hn
    obtain ⟨h1, h2⟩ := mem_opens.mp hn
    rcases hus n h1 with e | ⟨e1, e2⟩
    · exact .inl e
    · refine .inr ⟨mem_opens.mpr ⟨e1, fun z => ?_⟩, e2⟩
      rw [et] at h2
      rw [c1] at z
      simp only [List.mem_append, not_or] at z h2
      rcases z with z | z | z
      · exact h2.1 z
      · exact e2 (s.cl_takes gs.cl n z)
      · exact h2.2 z
/-- the part put back -/
theorem put_back {t s : Tr} {p : Nat} {y : List Nat} (g : Good t) (h : t.at p = some s) (hf : Fre t s) (hy : okn y) (hyu : y ∉ t.uses) :
    (∀ n ∈ s.opens, n ∈ (t.put p (.us y)).opens → n = y) ∧ (PuT (t.put p (.us y)) y s).std = t.std := by
  obtain ⟨go, yo, oo, ot, ou⟩ := cut_good g h hf hy hyu
  have gs := g.at h
  obtain ⟨O, hO⟩ : ∃ O, O = t.put p (.us y) := ⟨_, rfl⟩
  rw [← hO] at go yo oo ot ou ⊢
  obtain ⟨_, ⟨A, q, a1, a2⟩, ⟨C, w, c1, c2⟩, _⟩ := put_all t p _ h
  have sut : ∀ n ∈ s.uses, n ∈ t.uses := fun n hn => by rw [a1]; simp [hn]
  have stt : ∀ n ∈ s.takes, n ∈ t.takes := fun n hn => by rw [c1]; simp [hn]
  refine ⟨fun n hn hn2 => ?_, ?_⟩
  · rcases oo n hn2 with e | ⟨_, e⟩
    · exact e
    · exact absurd (mem_opens.mp hn).1 e
  obtain ⟨f, hfd⟩ : ∃ f : List Nat → List Nat, f = fun n => if n ∈ t.opens ∨ n = y then n else if n ∈ s.takes then 50 :: n else 49 :: n := ⟨_, rfl⟩
  have fo : ∀ n, n ∈ t.opens ∨ n = y → f n = n := fun n hn => by rw [hfd]; simp only [if_pos hn]
  have f2 : ∀ n ∈ s.takes, f n = 50 :: n := fun n hn => by
    have h1 : ¬ (n ∈ t.opens ∨ n = y) := by
      rintro (z | z)
      · exact (mem_opens.mp z).2 (stt n hn)
      · subst z; exact hyu (t.cl_takes g.cl n (stt n hn))
    rw [hfd]; simp only [if_neg h1, if_pos hn]
  have f1 : ∀ n ∈ t.takes, n ∉ s.takes → f n = 49 :: n := fun n hn hns => by
    have h1 : ¬ (n ∈ t.opens ∨ n = y) := by
      rintro (z | z)
      · exact (mem_opens.mp z).2 hn
      · subst z; exact hyu (t.cl_takes g.cl n hn)
    rw [hfd]; simp only [if_neg h1, if_neg hns]
  have cases3 : ∀ n ∈ t.uses, n ∈ t.opens ∨ (n ∈ t.takes ∧ n ∈ s.takes) ∨ (n ∈ t.takes ∧ n ∉ s.takes) := fun n hn => by
    by_cases h1 : n ∈ t.takes
    · by_cases h2 : n ∈ s.takes
      · exact .inr (.inl ⟨h1, h2⟩)
      · exact .inr (.inr ⟨h1, h2⟩)
    · exact .inl (mem_opens.mpr ⟨hn, h1⟩)
  have hinj : InjOn f t.uses := fun a ha b hb e => by
    have oa := uses_okn g ha
    have ob := uses_okn g hb
    rcases cases3 a ha with h1 | ⟨h1, h2⟩ | ⟨h1, h2⟩ <;> rcases cases3 b hb with k1 | ⟨k1, k2⟩ | ⟨k1, k2⟩
    · rwa [fo a (.inl h1), fo b (.inl k1)] at e
    · rw [fo a (.inl h1), f2 b k2] at e; exact absurd e (okn_ne oa (by omega))
    · rw [fo a (.inl h1), f1 b k1 k2] at e; exact absurd e (okn_ne oa (by omega))
    · rw [f2 a h2, fo b (.inl k1)] at e; exact absurd e.symm (okn_ne ob (by omega))
    · rw [f2 a h2, f2 b k2] at e; exact (List.cons.inj e).2
    · rw [f2 a h2, f1 b k1 k2] at e; cases e
    · rw [f1 a h1 h2, fo b (.inl k1)] at e; exact absurd e.symm (okn_ne ob (by omega))
    · rw [f1 a h1 h2, f2 b k2] at e; cases e
    · rw [f1 a h1 h2, f1 b k1 k2] at e; exact (List.cons.inj e).2
  have e1 : O.m1 = O.ren f := by
    have otk : ∀ n ∈ O.takes, mk 49 O.opens n = f n := fun n hn => by
      obtain ⟨h1, h2⟩ := ot n hn
      rw [mtake hn, f1 n h1 h2]
    refine ren_cong O (fun n hn => ?_) otk
    by_cases ho : n ∈ O.opens
    · rw [mk_open ho]
      rcases oo n ho with e | ⟨e, _⟩
      · exact (fo n (.inr e)).symm
      · exact (fo n (.inl e)).symm
    · have : n ∈ O.takes := by
        by_cases hm : n ∈ O.takes
        · exact hm
        · exact absurd (mem_opens.mpr ⟨hn, hm⟩) ho
      exact otk n this
  have e2 : s.m2 = s.ren f := by
    have stk : ∀ n ∈ s.takes, mk 50 s.opens n = f n := fun n hn => by rw [mtake hn, f2 n hn]
    refine ren_cong s (fun n hn => ?_) stk
    by_cases ho : n ∈ s.opens
    · rw [mk_open ho, fo n (.inl (hf n ho))]
    · have : n ∈ s.takes := by
        by_cases hm : n ∈ s.takes
        · exact hm
        · exact absurd (mem_opens.mpr ⟨hn, hm⟩) ho
      exact stk n this
  have fy : f y = y := fo y (.inr rfl)
  have e3 : PuT O y s = t.ren f := by
    unfold PuT
    rw [e1, e2]
    have e4 : (O.sub y s).ren f = (O.ren f).sub (f y) (s.ren f) := sub_ren fun n hn e => by
      rw [fy] at e
      rcases ou n hn with z | ⟨z1, z2⟩
      · exact z
      · rcases cases3 n z1 with h1 | ⟨h1, h2⟩ | ⟨h1, h2⟩
        · rwa [fo n (.inl h1)] at e
        · rw [f2 n h2] at e; exact absurd e.symm (okn_ne hy (by omega))
        · rw [f1 n h1 h2] at e; exact absurd e.symm (okn_ne hy (by omega))
    rw [fy] at e4
    rw [← e4, hO, put_sub t p (at_lt h) hyu, put_at t p s h]
  rw [e3]
  exact (std_ren g.gw hinj).mpr fun n hn => fo n (.inl hn)
/-- standard names first, and what is put in then: the same -/
theorem put_std {t u : Tr} {x : List Nat} (gt : Good t) (gu : Good u) (hx : x ∈ t.opens) (hd : ∀ n ∈ u.opens, n ∈ t.opens → n = x) (hs : t.size ≤ 10000) : (PuT t.std x u).std = (PuT t x u).std := by
  obtain ⟨gP, oP⟩ := pu_gw gt gu hx hd
  obtain ⟨k, hk⟩ : ∃ k, k = sg t.opens t.takes := ⟨_, rfl⟩
  have ki : InjOn k t.uses := by rw [hk]; exact sg_inj gt.gw hs
  have ko : ∀ n ∈ t.opens, k n = n := fun n hn => by rw [hk]; exact sg_open hn
  have hc := t.cl_takes gt.cl
  have kt : ∀ n ∈ t.takes, k n ∉ t.opens := fun n hn z => by
    have h1 := ko _ z
    have : k n ∈ t.uses := (mem_opens.mp z).1
    have e := ki (k n) this n (hc n hn) h1
    rw [e] at z
    exact (mem_opens.mp z).2 hn
  obtain ⟨f, hf⟩ : ∃ f : List Nat → List Nat, f = fun n => if n.take 1 = [49] then 49 :: k (n.drop 1) else n := ⟨_, rfl⟩
  have f1 : ∀ m, f (49 :: m) = 49 :: k m := fun m => by rw [hf]; simp
  have fn : ∀ n, (∀ m, n ≠ 49 :: m) → f n = n := fun n h => by
    rw [hf]
    have : n.take 1 ≠ [49] := fun z => by
      cases n with
      | nil => cases z
      | cons c r => simp at z; exact h r (by rw [z])
    simp only [if_neg this]
  have fok : ∀ n, okn n → f n = n := fun n h => fn n fun m => okn_ne h (by omega)
  have e1 : t.std.m1 = t.m1.ren f := by
    show (t.std).ren (mk 49 t.std.opens) = _
    rw [std_opens gt.gw hs]
    unfold Tr.std
    rw [← hk, ren_ren, ren_ren]
    have tk : ∀ n ∈ t.takes, mk 49 t.opens (k n) = f (mk 49 t.opens n) := fun n hn => by rw [mtake hn, f1, mk_not (kt n hn)]
    refine ren_cong t (fun n hn => ?_) tk
    by_cases ho : n ∈ t.opens
    · rw [ko n ho, mk_open ho, fok n (open_okn gt ho)]
    · exact tk n (by
        by_cases hm : n ∈ t.takes
        · exact hm
        · exact absurd (mem_opens.mpr ⟨hn, hm⟩) ho)
  have e2 : u.m2.ren f = u.m2 := by
    conv => rhs; rw [← ren_id u.m2]
    refine ren_cong _ (fun n hn => ?_) fun n hn => ?_
    · rcases m_use hn with a | ⟨j, rfl, _⟩
      · exact fok n (open_okn gu a)
      · exact fn _ fun m z => by cases z
    · rw [mtakes] at hn
      obtain ⟨j, _, rfl⟩ := List.mem_map.mp hn
      exact fn _ fun m z => by cases z
  have fx : f x = x := fok x (open_okn gt hx)
  have e3 : PuT t.std x u = (PuT t x u).ren f := by
    unfold PuT
    rw [e1]
    have e4 : (t.m1.sub x u.m2).ren f = (t.m1.ren f).sub (f x) (u.m2.ren f) := sub_ren fun n hn e => by
      rw [fx] at e
      rcases m_use hn with a | ⟨j, rfl, _⟩
      · rwa [fok n (open_okn gt a)] at e
      · rw [f1] at e; exact absurd e.symm (okn_ne (open_okn gt hx) (by omega))
    rw [e4, e2, fx]
  rw [e3]
  have g1 := m_gw gt (m := 49) (by omega) (by omega) (by omega)
  refine (std_ren gP fun a ha b hb e => ?_).mpr fun n hn => fok n (oP n hn).1
  have kinds : ∀ n ∈ (PuT t x u).uses, (f n = n ∧ ∀ m, n ≠ 49 :: m) ∨ ∃ m, n = 49 :: m ∧ m ∈ t.takes := fun n hn => by
    have hn := (sub_uses (u := u.m2) g1.un (m1_mem hx)).mem_iff.mp hn
    rcases List.mem_append.mp hn with hn | hn
    · rcases m_use (List.mem_of_mem_erase hn) with a | ⟨j, rfl, hj⟩
      · exact .inl ⟨fok n (open_okn gt a), fun m => okn_ne (open_okn gt a) (by omega)⟩
      · exact .inr ⟨j, rfl, hj⟩
    · rcases m_use hn with a | ⟨j, rfl, _⟩
      · exact .inl ⟨fok n (open_okn gu a), fun m => okn_ne (open_okn gu a) (by omega)⟩
      · exact .inl ⟨fn _ fun m z => (by cases z), fun m z => (by cases z)⟩
  rcases kinds a ha with ⟨h1, h2⟩ | ⟨m, rfl, hm⟩ <;> rcases kinds b hb with ⟨k1, k2⟩ | ⟨j, rfl, hj⟩
  · rwa [h1, k1] at e
  · rw [h1, f1] at e; exact absurd e (h2 _)
  · rw [k1, f1] at e; exact absurd e.symm (k2 _)
  · rw [f1, f1] at e
    rw [ki m (hc m hm) j (hc j hj) (List.cons.inj e).2]
/-- a part of a part put back -/
theorem put_back2 {t s s2 : Tr} {p q : Nat} {y z : List Nat} (g : Good t) (h : t.at p = some s) (hf : Fre t s) (hy : okn y) (hyu : y ∉ t.uses) (h2 : s.at q = some s2) (hf2 : Fre s s2) (hz : okn z) (hzu : z ∉ t.uses) (hyz : z ≠ y) (hs : t.size ≤ 9000) :
    Good (s.put q (.us z)) ∧ (∀ n ∈ (s.put q (.us z)).opens, n ∈ (t.put p (.us y)).opens → n = y) ∧
    Good (PuT (t.put p (.us y)) y (s.put q (.us z))).std ∧ z ∈ (PuT (t.put p (.us y)) y (s.put q (.us z))).std.opens ∧ (∀ n ∈ s2.opens, n ∈ (PuT (t.put p (.us y)) y (s.put q (.us z))).std.opens → n = z) ∧
    (PuT (PuT (t.put p (.us y)) y (s.put q (.us z))).std z s2).std = t.std ∧ (PuT (t.put p (.us y)) y (s.put q (.us z))).std.size ≤ t.size := by
  have gs := g.at h
  obtain ⟨_, ⟨A, w, a1, a2⟩, ⟨C, v, c1, c2⟩, _⟩ := put_all t p _ h
  have sut : ∀ n ∈ s.uses, n ∈ t.uses := fun n hn => by rw [a1]; simp [hn]
  have hzs : z ∉ s.uses := fun e => hzu (sut z e)
  obtain ⟨gm, zm, om, tm, um⟩ := cut_good gs h2 hf2 hz hzs
  obtain ⟨hat, hput⟩ := at_at t p q s s2 h h2
  have hf3 : Fre t s2 := fun n hn => hf n (hf2 n hn)
  obtain ⟨g2, z2, o2, t2, u2⟩ := cut_good g hat hf3 hz hzu
  have eT : t.put p (s.put q (.us z)) = t.put (p + q) (.us z) := hput _
  -- the whole with z in it, and its part
  have at2 : (t.put (p + q) (.us z)).at p = some (s.put q (.us z)) := by rw [← eT]; exact put_same t p (at_lt h)
  have pt2 : (t.put (p + q) (.us z)).put p (.us y) = t.put p (.us y) := by rw [← eT]; exact put_put t p h
  have yu2 : y ∉ (t.put (p + q) (.us z)).uses := fun e => by
    rcases u2 y e with e | ⟨e, _⟩
    · exact hyz e.symm
    · exact hyu e
  have hfm : Fre (t.put (p + q) (.us z)) (s.put q (.us z)) := fun n hn => by
    rcases om n hn with e | ⟨e, ne⟩
    · rw [e]; exact z2
    · have ho := hf n e
      refine mem_opens.mpr ⟨?_, fun zz => (mem_opens.mp ho).2 (t2 n zz).1⟩
      rw [← eT, a2]
      simp [(mem_opens.mp hn).1]
  obtain ⟨b1, b2⟩ := put_back g2 at2 hfm hy yu2
  rw [pt2] at b1 b2
  obtain ⟨b3, b4⟩ := put_back g hat hf3 hz hzu
  have sz2 : (t.put (p + q) (.us z)).size ≤ t.size := by
    have h1 := put_size (s' := .us z) hat
    have h3 := s2.size_pos
    have h4 : (Tr.us z).size = 1 := rfl
    omega
  have so := std_opens g2.gw (by omega)
  refine ⟨gm, b1, ?_, ?_, ?_, ?_, ?_⟩
  · rw [b2]; exact g2.std (by omega)
  · rw [b2, so]; exact z2
  · rw [b2, so]; exact b3
  · rw [b2, put_std g2 (gs.at h2) z2 b3 (by omega), b4]
  · rw [b2, std_size]; exact sz2
end Once

/-! FA09a: free places. -/
namespace Once
open PySem PySem.Spec L2 OD F
def fr (t : Tr) (p : Nat) : Bool := match t.at p with
  | some s => (s.opens.map fun n => decide (n ∈ t.opens)).all id
  | none => false
theorem fr_fre {t s : Tr} {p : Nat} (h : t.at p = some s) (hf : fr t p = true) : Fre t s := by
  unfold fr at hf
  rw [h] at hf
  intro n hn
  have := List.all_eq_true.mp hf (decide (n ∈ t.opens)) (List.mem_map.mpr ⟨n, hn, rfl⟩)
  simpa using this
theorem fr_zero (t : Tr) : fr t 0 = true := by
  unfold fr
  rw [Tr.at_zero]
  show (t.opens.map fun n => decide (n ∈ t.opens)).all id = true
  rw [List.all_eq_true]
  intro b hb
  obtain ⟨n, hn, rfl⟩ := List.mem_map.mp hb
  simpa using hn
theorem free_loop {t : Tr} (g : Good t) (hs : t.size < 9000) : ∀ (r : List Nat) (acc : List D) (x4 x5 : Option Sv), (∀ p ∈ r, p < t.size) → acc.length + r.length < 10000 →
    ∃ y4 y5, forL (gName 4) fb_law_free_places_1 (r.map fun (p : Nat) => D.int (p : Int)) [some (.im (pws t.pre)), some (.im (.lst (nms t.opens))), some (.im (.tup (ni (t.ends 0)))), some (.lst acc), x4, x5, none] = .nx [some (.im (pws t.pre)), some (.im (.lst (nms t.opens))), some (.im (.tup (ni (t.ends 0)))), some (.lst (acc ++ (r.filter (fr t)).map fun (p : Nat) => D.int (p : Int))), y4, y5, none] := by
  intro r
  induction r with
  | nil => intro acc x4 x5 _ _; exact ⟨x4, x5, by simp [forL]⟩
  | cons p r ih =>
    intro acc x4 x5 hp hl
    rw [List.length_cons] at hl
    have hk : acc.length < 16777216 := by omega
    obtain ⟨s, h⟩ := t.at_some p (hp p (by simp))
    have gs := g.at h
    have h2 := t.at_size h
    have e1 := law_open_eq gs (show s.size < 9000 by omega)
    rw [opens_pw] at e1
    have e2 := ends_at h
    have e3 := pw_cut h
    have sol := s.opens_le
    obtain ⟨x6, hx6, e4⟩ := names_loop (i := 6) (p := fun n => decide (n ∈ t.opens)) (e := fOp (inF false) (oV 6) (oV 1)) (fun z => [some (.im (pws t.pre)), some (.im (.lst (nms t.opens))), some (.im (.tup (ni (t.ends 0)))), some (.lst acc), some (.im (.int (p : Nat))), some (.im (.lst (s.opens.map fun n => D.str (mkS n)))), z]) (fun x => rfl) (fun x d => rfl) s.opens [] none (fun n hn => by
      have := in_nms n t.opens
      simp [this]) (by simp; omega)
    have hall : blsF (s.opens.map fun n => D.bl (decide (n ∈ t.opens))) = some (s.opens.map fun n => decide (n ∈ t.opens)) := bls_t (fun n => decide (n ∈ t.opens)) s.opens
    have hfr : (s.opens.map fun n => decide (n ∈ t.opens)).all id = fr t p := by unfold fr; rw [h]
    simp only [Int.natCast_add] at e2 e3
    simp only [pws, List.nil_append] at e1 e4
    cases hb : fr t p with
    | true =>
      rw [hb] at hfr
      obtain ⟨y4, y5, e⟩ := ih (acc ++ [.int (p : Nat)]) (some (.im (.int (p : Nat)))) (some (.im (.lst (s.opens.map fun n => D.str (mkS n))))) (fun q hq => hp q (by simp [hq])) (by simp; omega)
      refine ⟨y4, y5, ?_⟩
      rw [List.map_cons, forL_step (s1 := [some (.im (pws t.pre)), some (.im (.lst (nms t.opens))), some (.im (.tup (ni (t.ends 0)))), some (.lst acc), some (.im (.int (p : Nat))), x5, none]) (s2 := [some (.im (pws t.pre)), some (.im (.lst (nms t.opens))), some (.im (.tup (ni (t.ends 0)))), some (.lst (acc ++ [.int (p : Nat)])), some (.im (.int (p : Nat))), some (.im (.lst (s.opens.map fun n => D.str (mkS n)))), none]) (by simp) (by simp [-List.all_map, fb_law_free_places_1, late, pws, e2, e3, e1, e4, hall, hfr, hk]), e]
      simp [hb]
    | false =>
      rw [hb] at hfr
      obtain ⟨y4, y5, e⟩ := ih acc (some (.im (.int (p : Nat)))) (some (.im (.lst (s.opens.map fun n => D.str (mkS n))))) (fun q hq => hp q (by simp [hq])) (by omega)
      refine ⟨y4, y5, ?_⟩
      rw [List.map_cons, forL_step (s1 := [some (.im (pws t.pre)), some (.im (.lst (nms t.opens))), some (.im (.tup (ni (t.ends 0)))), some (.lst acc), some (.im (.int (p : Nat))), x5, none]) (s2 := [some (.im (pws t.pre)), some (.im (.lst (nms t.opens))), some (.im (.tup (ni (t.ends 0)))), some (.lst acc), some (.im (.int (p : Nat))), some (.im (.lst (s.opens.map fun n => D.str (mkS n)))), none]) (by simp) (by simp [-List.all_map, fb_law_free_places_1, late, pws, e2, e3, e1, e4, hall, hfr]), e]
      simp [hb]
def frL (t : Tr) : List Nat := (List.range t.size).filter (fr t)
theorem law_free_places_eq {t : Tr} (g : Good t) (hs : t.size < 9000) : ff_law_free_places [.im (pws t.pre)] = .ok (.im (.lst ((frL t).map fun (p : Nat) => D.int (p : Int)))) [.im (pws t.pre)] := by
  have e1 := law_open_eq g hs
  rw [opens_pw] at e1
  have e2 := law_ends_eq g.ok hs
  obtain ⟨y4, y5, e3⟩ := free_loop g hs (List.range t.size) [] none none (fun p hp => List.mem_range.mp hp) (by simp; omega)
  have h1 : (t.size : Int) < 4611686018427387904 := by omega
  have h2 : -4611686018427387904 ≤ (t.size : Int) := by omega
  have hn : nms t.opens = t.opens.map fun n => D.str (mkS n) := rfl
  rw [hn] at e3
  simp only [pws, List.nil_append] at e1 e2 e3
  unfold frL
  simp [ff_law_free_places, fDef_eq, fb_law_free_places, late, pws, t.pre_len, e1, e2, h1, h2, e3]
theorem frL_mem {t : Tr} {p : Nat} (h : p ∈ frL t) : ∃ s, t.at p = some s ∧ Fre t s := by
  obtain ⟨h1, h2⟩ := List.mem_filter.mp h
  obtain ⟨s, hs⟩ := t.at_some p (List.mem_range.mp h1)
  exact ⟨s, hs, fr_fre hs h2⟩
theorem frL_pos (t : Tr) : 0 < (frL t).length := List.length_pos_of_mem (List.mem_filter.mpr ⟨List.mem_range.mpr t.size_pos, fr_zero t⟩)
theorem frL_le (t : Tr) : (frL t).length ≤ t.size := Nat.le_trans (List.length_filter_le _ _) (by simp)
/-- the words with one in the place of a part -/
theorem cut_words {t s u : Tr} {p : Nat} (h : t.at p = some s) : cutL (t.pre.map pw) none (some (p : Int)) ++ u.pre.map pw ++ cutL (t.pre.map pw) (some ((p + s.size : Nat) : Int)) none = (t.put p u).pre.map pw ∧ (cutL (t.pre.map pw) none (some (p : Int))).length ≤ t.size ∧ (cutL (t.pre.map pw) (some ((p + s.size : Nat) : Int)) none).length ≤ t.size := by
  obtain ⟨⟨A, q, a1, a2, a3⟩, _⟩ := put_all t p s h
  have M : t.pre.map pw = A.map pw ++ (s.pre.map pw ++ q.map pw) := by rw [a1]; simp
  have k1 : cutL (t.pre.map pw) none (some (p : Int)) = A.map pw := cut_hd M (by simp [a2])
  have k2 : cutL (t.pre.map pw) (some ((p + s.size : Nat) : Int)) none = q.map pw := cut_tl (X := A.map pw ++ s.pre.map pw) (by rw [M]; simp) (by simp [a2, Tr.pre_len])
  have hl := congrArg List.length a1
  simp [Tr.pre_len] at hl
  refine ⟨?_, ?_, ?_⟩
  · rw [k1, k2, a3]
    simp
  · rw [k1]; simp; omega
  · rw [k2]; simp; omega
end Once

/-! FA09b: a place of k09's law. -/
namespace Once
open PySem PySem.Spec L2 OD F
theorem fb_law_1_eq {c : Cs} {t s : Tr} {p : Nat} {y : List Nat} {U : List (List Nat)} (g : Good t) (ts : t.size ≤ 500) (h : t.at p = some s) (hf : Fre t s) (hy : okn y) (hyU : y ∈ U) (hyu : y ∉ t.uses) (hU : ∀ n ∈ t.uses, n ∈ U) (hl : U.length < 4900) (cp : PotC) (hc : cp.ss ≠ [])
    (o0 o2 o7 o11 o12 o13 o14 o15 o16 : Option Sv) : ∃ (c' : PotC) (z : List Nat) (p11 p12 p13 p14 p15 p16 : Option Sv), c'.ss ≠ [] ∧
    fb_law_1 c [o0, some (.pot cp), o2, some (.im (pws t.pre)), some (.im (prg c.Program t.pre)), some (.im (prg c.RawProgram t.std.pre)), some (.im (.tup (ni (t.ends 0)))), o7, some (.lst (nms U)), some (.im (.str (mkS y))), some (.im (.int (p : Nat))), o11, o12, o13, o14, o15, o16, none, none] = .nx [o0, some (.pot c'), o2, some (.im (pws t.pre)), some (.im (prg c.Program t.pre)), some (.im (prg c.RawProgram t.std.pre)), some (.im (.tup (ni (t.ends 0)))), o7, some (.lst (nms (U ++ [z]))), some (.im (.str (mkS y))), some (.im (.int (p : Nat))), p11, p12, p13, p14, p15, p16, none, none] := by
  have hP := PbP c
  have hR := PbR c
  have gs := g.at h
  have pl := t.at_size h
  have e11 := part_eq (c := c) (C := c.Program) hP g (by omega) h
  obtain ⟨go, yo, oo, _, _⟩ := cut_good g h hf hy hyu
  obtain ⟨b1, b2⟩ := put_back g h hf hy hyu
  obtain ⟨O, hO⟩ : ∃ O, O = t.put p (.us y) := ⟨_, rfl⟩
  obtain ⟨w1, w2, w3⟩ := cut_words (u := .us y) h
  have w1' : cutL (t.pre.map pw) none (some (p : Int)) ++ [D.str (mkS y)] ++ cutL (t.pre.map pw) (some ((p + s.size : Nat) : Int)) none = O.pre.map pw := by rw [hO]; exact w1
  rw [← hO] at go yo oo b1 b2
  have so : O.size ≤ t.size := by
    have h1 := put_size (s' := .us y) h
    have h3 := s.size_pos
    have h4 : (Tr.us y).size = 1 := rfl
    rw [← hO] at h1
    omega
  have e12 := Program_init_eq hP go (by omega)
  have ends := ends_at h
  have e13 := put_in_eq (c := c) (C := c.Program) (C2 := c.RawProgram) hP hR go gs (by omega) (by omega) yo b1
  rw [b2] at e13
  have gst := g.std (show t.size ≤ 10000 by omega)
  have sst : t.std.size = t.size := std_size t
  have isiR : c.rel (.ref c.RawProgram) c.Program = some true := by simp [Cs.rel]
  have eqe := Program_eq_eq (c := c) (C := c.RawProgram) (C2 := c.RawProgram) hR hR isiR fun w hw => gst.ok_mem' w hw
  have hsm := same_eq (c := c) (C := c.RawProgram) (C2 := c.Program) hR hP gst g (by omega) (by omega)
  rw [decide_eq_true (std_std g.gw (by omega))] at hsm
  have e14 := law_free_places_eq gs (show s.size < 9000 by omega)
  obtain ⟨c1, dq, k1, hdq, e15⟩ := law_any_eq (xs := (frL s).map fun (p : Nat) => D.int (p : Int)) hc (by have := frL_pos s; simpa using this) (by have := frL_le s; simp; omega)
  obtain ⟨q, hq, rfl⟩ := List.mem_map.mp hdq
  obtain ⟨s2, h2, hf2⟩ := frL_mem hq
  have ql := s.at_size h2
  obtain ⟨c2, z, k2, hz, hzU, e16⟩ := law_fresh_eq (us := U) k1 (by omega)
  have hzu : z ∉ t.uses := fun e => hzU (hU z e)
  have hyz : z ≠ y := fun e => hzU (e ▸ hyU)
  obtain ⟨gm, m1, gM, zM, m2, mE, mS⟩ := put_back2 g h hf hy hyu h2 hf2 hz hzu hyz (by omega)
  rw [← hO] at m1 gM zM m2 mE mS
  obtain ⟨Mi, hMi⟩ : ∃ Mi, Mi = s.put q (.us z) := ⟨_, rfl⟩
  obtain ⟨v1, v2, v3⟩ := cut_words (u := .us z) h2
  have v1' : cutL (s.pre.map pw) none (some (q : Int)) ++ [D.str (mkS z)] ++ cutL (s.pre.map pw) (some ((q + s2.size : Nat) : Int)) none = Mi.pre.map pw := by rw [hMi]; exact v1
  rw [← hMi] at gm m1 gM zM m2 mE mS
  have sm : Mi.size ≤ s.size := by
    have h1 := put_size (s' := .us z) h2
    have h3 := s2.size_pos
    have h4 : (Tr.us z).size = 1 := rfl
    rw [← hMi] at h1
    omega
  have ends2 := ends_at h2
  have e17 := law_ends_eq gs.ok (show s.size < 9000 by omega)
  have e18 := Program_init_eq hP gm (by omega)
  have e19 := put_in_eq (c := c) (C := c.Program) (C2 := c.Program) hP hP go gm (by omega) (by omega) yo m1
  obtain ⟨M2, hM2⟩ : ∃ M2, M2 = (PuT O y Mi).std := ⟨_, rfl⟩
  rw [← hM2] at gM zM m2 mE mS e19
  have e20 := part_eq (c := c) (C := c.RawProgram) hR gs (by omega) h2
  have e21 := put_in_eq (c := c) (C := c.RawProgram) (C2 := c.RawProgram) hR hR gM (gs.at h2) (by omega) (by omega) zM m2
  rw [mE] at e21
  have y1 : (cutL (t.pre.map pw) none (some (p : Int))).length + 1 ≤ 16777216 := by omega
  have y2 : (cutL (t.pre.map pw) none (some (p : Int))).length + 1 + (cutL (t.pre.map pw) (some ((p + s.size : Nat) : Int)) none).length ≤ 16777216 := by omega
  have x1 : (cutL (s.pre.map pw) none (some (q : Int))).length + 1 ≤ 16777216 := by omega
  have x2 : (cutL (s.pre.map pw) none (some (q : Int))).length + 1 + (cutL (s.pre.map pw) (some ((q + s2.size : Nat) : Int)) none).length ≤ 16777216 := by omega
  have y3 : (cutL (t.pre.map pw) none (some (p : Int))).length + ((cutL (t.pre.map pw) (some ((p + s.size : Nat) : Int)) none).length + 1) ≤ 16777216 := by omega
  have x3 : (cutL (s.pre.map pw) none (some (q : Int))).length + ((cutL (s.pre.map pw) (some ((q + s2.size : Nat) : Int)) none).length + 1) ≤ 16777216 := by omega
  simp only [Int.natCast_add] at ends ends2 w1' v1' y1 y2 y3 x1 x2 x3
  simp only [List.append_assoc, List.singleton_append] at w1' v1'
  refine ⟨c2, z, some (.im (prg c.RawProgram s.pre)), some (.im (prg c.Program O.pre)), some (.im (prg c.RawProgram t.std.pre)), some (.im (.int (q : Nat))), some (.im (.str (mkS z))), some (.im (pws Mi.pre)), k2, ?_⟩
  unfold fb_law_1
  refine (fSeq_nx (s1 := [o0, some (.pot cp), o2, some (.im (pws t.pre)), some (.im (prg c.Program t.pre)), some (.im (prg c.RawProgram t.std.pre)), some (.im (.tup (ni (t.ends 0)))), o7, some (.lst (nms U)), some (.im (.str (mkS y))), some (.im (.int (p : Nat))), some (.im (prg c.RawProgram s.pre)), o12, o13, o14, o15, o16, none, none]) ?_).trans ?_
  · simp [e11]
  refine (fSeq_nx (s1 := [o0, some (.pot cp), o2, some (.im (pws t.pre)), some (.im (prg c.Program t.pre)), some (.im (prg c.RawProgram t.std.pre)), some (.im (.tup (ni (t.ends 0)))), o7, some (.lst (nms U)), some (.im (.str (mkS y))), some (.im (.int (p : Nat))), some (.im (prg c.RawProgram s.pre)), some (.im (prg c.Program O.pre)), o13, o14, o15, o16, none, none]) ?_).trans ?_
  · simp only [pws] at e12
    simp [pws, ends, y1, y2, y3, w1', e12, made, prg]
  refine (fSeq_nx (s1 := [o0, some (.pot cp), o2, some (.im (pws t.pre)), some (.im (prg c.Program t.pre)), some (.im (prg c.RawProgram t.std.pre)), some (.im (.tup (ni (t.ends 0)))), o7, some (.lst (nms U)), some (.im (.str (mkS y))), some (.im (.int (p : Nat))), some (.im (prg c.RawProgram s.pre)), some (.im (prg c.Program O.pre)), some (.im (prg c.RawProgram t.std.pre)), o14, o15, o16, none, none]) ?_).trans ?_
  · simp [e13]
  refine (fSeq_nx (s1 := [o0, some (.pot cp), o2, some (.im (pws t.pre)), some (.im (prg c.Program t.pre)), some (.im (prg c.RawProgram t.std.pre)), some (.im (.tup (ni (t.ends 0)))), o7, some (.lst (nms U)), some (.im (.str (mkS y))), some (.im (.int (p : Nat))), some (.im (prg c.RawProgram s.pre)), some (.im (prg c.Program O.pre)), some (.im (prg c.RawProgram t.std.pre)), o14, o15, o16, none, none]) ?_).trans ?_
  · simp only [prg] at hsm eqe
    simp [prg, late, hsm, isiR, Cs.eqProgramb, eqe, eqRs]
  refine (fSeq_nx (s1 := [o0, some (.pot c1), o2, some (.im (pws t.pre)), some (.im (prg c.Program t.pre)), some (.im (prg c.RawProgram t.std.pre)), some (.im (.tup (ni (t.ends 0)))), o7, some (.lst (nms U)), some (.im (.str (mkS y))), some (.im (.int (p : Nat))), some (.im (prg c.RawProgram s.pre)), some (.im (prg c.Program O.pre)), some (.im (prg c.RawProgram t.std.pre)), some (.im (.int (q : Nat))), o15, o16, none, none]) ?_).trans ?_
  · simp only [pws] at e14
    simp [prg, pws, hR, e14, e15]
  refine (fSeq_nx (s1 := [o0, some (.pot c2), o2, some (.im (pws t.pre)), some (.im (prg c.Program t.pre)), some (.im (prg c.RawProgram t.std.pre)), some (.im (.tup (ni (t.ends 0)))), o7, some (.lst (nms (U ++ [z]))), some (.im (.str (mkS y))), some (.im (.int (p : Nat))), some (.im (prg c.RawProgram s.pre)), some (.im (prg c.Program O.pre)), some (.im (prg c.RawProgram t.std.pre)), some (.im (.int (q : Nat))), some (.im (.str (mkS z))), o16, none, none]) ?_).trans ?_
  · simp [e16]
  refine (fSeq_nx (s1 := [o0, some (.pot c2), o2, some (.im (pws t.pre)), some (.im (prg c.Program t.pre)), some (.im (prg c.RawProgram t.std.pre)), some (.im (.tup (ni (t.ends 0)))), o7, some (.lst (nms (U ++ [z]))), some (.im (.str (mkS y))), some (.im (.int (p : Nat))), some (.im (prg c.RawProgram s.pre)), some (.im (prg c.Program O.pre)), some (.im (prg c.RawProgram t.std.pre)), some (.im (.int (q : Nat))), some (.im (.str (mkS z))), some (.im (pws Mi.pre)), none, none]) ?_).trans ?_
  · simp only [pws] at e17
    simp [prg, pws, hR, e17, ends2, x1, x2, x3, v1']
  refine (fSeq_nx (s1 := [o0, some (.pot c2), o2, some (.im (pws t.pre)), some (.im (prg c.Program t.pre)), some (.im (prg c.RawProgram t.std.pre)), some (.im (.tup (ni (t.ends 0)))), o7, some (.lst (nms (U ++ [z]))), some (.im (.str (mkS y))), some (.im (.int (p : Nat))), some (.im (prg c.RawProgram s.pre)), some (.im (prg c.Program O.pre)), some (.im (prg c.RawProgram t.std.pre)), some (.im (.int (q : Nat))), some (.im (.str (mkS z))), some (.im (pws Mi.pre)), none, none]) ?_).trans ?_
  · simp only [prg] at e18 e19 e20 e21
    simp [prg, e18, e19, e20, e21, made]
  simp only [prg] at eqe
  simp [prg, late, Cs.eqProgramb, eqe, eqRs]
end Once

/-! FA09c: a turn of k09's law. -/
namespace Once
open PySem PySem.Spec L2 OD F
/-- the letters of a word -/
def wl : Pw → List Nat
  | .gv => [64]
  | .tk n => 47 :: n
  | .us n => n
theorem pw_wl (w : Pw) : pw w = .str (mkS (wl w)) := by cases w <;> rfl
theorem map_wl (ws : List Pw) : ws.map pw = nms (ws.map wl) := by
  unfold nms
  rw [List.map_map]
  exact List.map_congr_left fun w _ => pw_wl w
theorem any_loop {xs : List Nat} (h0 : 0 < xs.length) (hl : xs.length < 10000) (S : PotC → Option Sv → Sl) (h1 : ∀ c x, (S c x)[1]? = some (some (.pot c))) (h7 : ∀ c x, (S c x)[7]? = some (some (.im (.lst (xs.map fun (p : Nat) => D.int (p : Int)))))) (hS : ∀ c x, wipeF (S c x) [17] = S c none) (hset : ∀ c x d, (S c x).set 17 (some (.im d)) = S c (some (.im d))) (hpot : ∀ c c' x, (S c x).set 1 (some (.pot c')) = S c' x) :
    ∀ (r acc : List D) (c : PotC) (x : Option Sv), c.ss ≠ [] → acc.length + r.length < 10000 → ∃ (c' : PotC) (x' : Option Sv) (P : List Nat), c'.ss ≠ [] ∧ (∀ p ∈ P, p ∈ xs) ∧ P.length = r.length ∧ (x' = x ∨ ∃ d, x' = some (.im d)) ∧
      lcL [17] (gName 17) tYes (fCall 2 ff_law_any (rO 1 (rO 7 rNil))) r (S c x) acc = .ok (acc ++ P.map fun (p : Nat) => D.int (p : Int)) (S c' x') := by
  intro r
  induction r with
  | nil => intro acc c x hc _; exact ⟨c, x, [], hc, by simp, rfl, .inl rfl, by simp [lcL]⟩
  | cons d r ih =>
    intro acc c x hc hl2
    rw [List.length_cons] at hl2
    have hk : acc.length < 16777216 := by omega
    obtain ⟨c1, dq, k1, hdq, e1⟩ := law_any_eq (xs := xs.map fun (p : Nat) => D.int (p : Int)) hc (by simpa using h0) (by simp; omega)
    obtain ⟨q, hq, rfl⟩ := List.mem_map.mp hdq
    obtain ⟨c', x', P, a1, a2, a3, a4, e⟩ := ih (acc ++ [.int (q : Nat)]) c1 (some (.im d)) k1 (by simp; omega)
    refine ⟨c', x', q :: P, a1, ?_, by simp [a3], .inr ?_, ?_⟩
    · intro p hp
      rcases List.mem_cons.mp hp with rfl | hp
      · exact hq
      · exact a2 p hp
    · rcases a4 with rfl | a4
      · exact ⟨_, rfl⟩
      · exact a4
    · unfold lcL
      rw [hS, show F.gName 17 d (S c none) = some (S c (some (.im d))) from congrArg some (hset _ _ _)]
      have a := h1 c (some (.im d))
      have b := h7 c (some (.im d))
      have w := hpot c c1 (some (.im d))
      simp [late, a, b, e1, w, hk, e]
theorem takes_loop (S : Option Sv → Sl) (hS : ∀ x, wipeF (S x) [18] = S none) (hset : ∀ x d, (S x).set 18 (some (.im d)) = S (some (.im d))) (h18 : ∀ d, (S (some (.im d)))[18]? = some (some (.im d))) :
    ∀ (r : List Pw) (acc : List D) (x : Option Sv), (∀ w ∈ r, w.ok) → acc.length + r.length < 10000 → ∃ x', (x' = x ∨ ∃ d, x' = some (.im d)) ∧
      lcL [18] (gName 18) (fTest (fOp (eqF false) (oE (fSl (oV 18) pNo (pSo (fC (.int 1))))) (oE (fC (.str "/"))))) (fSl (oV 18) (pSo (fC (.int 1))) pNo) (r.map pw) (S x) acc = .ok (acc ++ nms (tkN r)) (S x') := by
  intro r
  induction r with
  | nil => intro acc x _ _; exact ⟨x, .inl rfl, by simp [lcL, tkN, nms]⟩
  | cons w r ih =>
    intro acc x hok hl
    rw [List.length_cons] at hl
    have hk : acc.length < 16777216 := by omega
    have hw : w.ok := hok w (by simp)
    have a1 := t_sl (s := S (some (.im (pw w)))) (i := 18) false (h18 _) hw
    have a2 := h18 (pw w)
    obtain ⟨y, hy⟩ : ∃ y, y = acc ++ nms (tkN [w]) := ⟨_, rfl⟩
    have hyl : y.length ≤ acc.length + 1 := by rw [hy]; cases w <;> simp [tkN, nms]
    obtain ⟨x', hx, e⟩ := ih y (some (.im (pw w))) (fun v hv => hok v (by simp [hv])) (by omega)
    refine ⟨x', .inr ?_, ?_⟩
    · rcases hx with rfl | hx
      · exact ⟨_, rfl⟩
      · exact hx
    · rw [List.map_cons]
      unfold lcL
      rw [hS, show F.gName 18 (pw w) (S none) = some (S (some (.im (pw w)))) from congrArg some (hset _ _)]
      dsimp only
      rw [a1, nox_ok, ok_bind]
      rw [hy] at e
      cases w with
      | gv =>
        simp [tkN, nms] at e
        simp [Pw.ar, tkN, nms, e]
      | us n =>
        simp [tkN, nms] at e
        simp [Pw.ar, tkN, nms, e]
      | tk n =>
        have hn' : n.length + 1 ≤ 16777216 := by have := hw.2.1; omega
        simp [tkN, nms, pw] at e
        simp only [pw] at a2
        simp [Pw.ar, pw, a2, cutS_mk, cutL_r, hn', hk, tkN, nms, e]
theorem places_loop {c : Cs} {t : Tr} {y : List Nat} (g : Good t) (ts : t.size ≤ 500) (hy : okn y) (hyu : y ∉ t.uses) (o0 o2 o7 : Option Sv) : ∀ (P : List Nat) (U : List (List Nat)) (cp : PotC) (o10 o11 o12 o13 o14 o15 o16 : Option Sv), cp.ss ≠ [] → y ∈ U → (∀ n ∈ t.uses, n ∈ U) → U.length + P.length < 4900 → (∀ p ∈ P, p ∈ frL t) →
    ∃ (c' : PotC) (V : List (List Nat)) (p10 p11 p12 p13 p14 p15 p16 : Option Sv), c'.ss ≠ [] ∧
      forL (gName 10) (fb_law_1 c) (P.map fun (p : Nat) => D.int (p : Int)) [o0, some (.pot cp), o2, some (.im (pws t.pre)), some (.im (prg c.Program t.pre)), some (.im (prg c.RawProgram t.std.pre)), some (.im (.tup (ni (t.ends 0)))), o7, some (.lst (nms U)), some (.im (.str (mkS y))), o10, o11, o12, o13, o14, o15, o16, none, none] = .nx [o0, some (.pot c'), o2, some (.im (pws t.pre)), some (.im (prg c.Program t.pre)), some (.im (prg c.RawProgram t.std.pre)), some (.im (.tup (ni (t.ends 0)))), o7, some (.lst (nms V)), some (.im (.str (mkS y))), p10, p11, p12, p13, p14, p15, p16, none, none] := by
  intro P
  induction P with
  | nil => intro U cp o10 o11 o12 o13 o14 o15 o16 hc _ _ _ _; exact ⟨cp, U, o10, o11, o12, o13, o14, o15, o16, hc, by simp [forL]⟩
  | cons p P ih =>
    intro U cp o10 o11 o12 o13 o14 o15 o16 hc hyU hU hl hP
    rw [List.length_cons] at hl
    obtain ⟨s, h, hf⟩ := frL_mem (hP p (by simp))
    obtain ⟨c1, z, p11, p12, p13, p14, p15, p16, k1, e1⟩ := fb_law_1_eq (c := c) g ts h hf hy hyU hyu hU (by omega) cp hc o0 o2 o7 o11 o12 o13 o14 o15 o16
    obtain ⟨c', V, q10, q11, q12, q13, q14, q15, q16, k2, e2⟩ := ih (U ++ [z]) c1 (some (.im (.int (p : Nat)))) p11 p12 p13 p14 p15 p16 k1 (by simp [hyU]) (fun n hn => by simp [hU n hn]) (by simp; omega) (fun q hq => hP q (by simp [hq]))
    refine ⟨c', V, q10, q11, q12, q13, q14, q15, q16, k2, ?_⟩
    rw [List.map_cons, forL_step (s1 := [o0, some (.pot cp), o2, some (.im (pws t.pre)), some (.im (prg c.Program t.pre)), some (.im (prg c.RawProgram t.std.pre)), some (.im (.tup (ni (t.ends 0)))), o7, some (.lst (nms U)), some (.im (.str (mkS y))), some (.im (.int (p : Nat))), o11, o12, o13, o14, o15, o16, none, none]) rfl e1, e2]
theorem fb_law_2_eq {c : Cs} (ns j : D) (cp : PotC) (hc : cp.ss ≠ []) (o3 o4 o5 o6 o7 o8 o9 o10 o11 o12 o13 o14 o15 o16 : Option Sv) : ∃ (c' : PotC) (p3 p4 p5 p6 p7 p8 p9 p10 p11 p12 p13 p14 p15 p16 : Option Sv), c'.ss ≠ [] ∧
    fb_law_2 c [some (.im ns), some (.pot cp), some (.im j), o3, o4, o5, o6, o7, o8, o9, o10, o11, o12, o13, o14, o15, o16, none, none] = .nx [some (.im ns), some (.pot c'), some (.im j), p3, p4, p5, p6, p7, p8, p9, p10, p11, p12, p13, p14, p15, p16, none, none] := by
  have hP := PbP c
  have hR := PbR c
  obtain ⟨c1, R, N, t, k1, nd, okk, dw, sz, gv, rl, e1⟩ := law_program_eq (m := 60) (k := 4) hc (by omega) (by omega)
  have g : Good t := dw.good nd
  have ts : t.size ≤ 200 := by omega
  have hok : ∀ w ∈ t.pre, w.ok := fun w hw => g.ok_mem' w hw
  have e2 := Program_init_eq hP g (by omega)
  have e3 := standard_eq (c := c) (C := c.Program) hP g.gw (by omega)
  have e4 := law_ends_eq g.ok (show t.size < 9000 by omega)
  have e5 := law_free_places_eq g (show t.size < 9000 by omega)
  have fl := frL_le t
  have fp := frL_pos t
  -- the places
  obtain ⟨c2, P, k2, hPm, hPl, e6⟩ : ∃ (c2 : PotC) (P : List Nat), c2.ss ≠ [] ∧ (∀ p ∈ P, p ∈ frL t) ∧ P.length ≤ 30 ∧ (fIfS (fTest (fOp gtF (oE (fCB lenF (lCons (oV 7) lNil))) (oE (fC (.int 30))))) (fAsg (fLc (iRg rg1F (fCons (fC (.int 30)) fNil)) [17] (gName 17) tYes (fCall 2 ff_law_any (rO 1 (rO 7 rNil)))) 7) fNext) [some (.im ns), some (.pot c1), some (.im j), some (.im (pws t.pre)), some (.im (prg c.Program t.pre)), some (.im (prg c.RawProgram t.std.pre)), some (.im (.tup (ni (t.ends 0)))), some (.im (.lst ((frL t).map fun (p : Nat) => D.int (p : Int)))), o8, o9, o10, o11, o12, o13, o14, o15, o16, none, none] = .nx [some (.im ns), some (.pot c2), some (.im j), some (.im (pws t.pre)), some (.im (prg c.Program t.pre)), some (.im (prg c.RawProgram t.std.pre)), some (.im (.tup (ni (t.ends 0)))), some (.im (.lst (P.map fun (p : Nat) => D.int (p : Int)))), o8, o9, o10, o11, o12, o13, o14, o15, o16, none, none] := by
    by_cases h30 : 30 < (frL t).length
    · have z30 : (30 : Int) < ((frL t).length : Int) := by omega
      obtain ⟨c2, x', P, a1, a2, a3, a4, e⟩ := any_loop (xs := frL t) fp (by omega) (fun c0 x => [some (.im ns), some (.pot c0), some (.im j), some (.im (pws t.pre)), some (.im (prg c.Program t.pre)), some (.im (prg c.RawProgram t.std.pre)), some (.im (.tup (ni (t.ends 0)))), some (.im (.lst ((frL t).map fun (p : Nat) => D.int (p : Int)))), o8, o9, o10, o11, o12, o13, o14, o15, o16, x, none]) (fun _ _ => rfl) (fun _ _ => rfl) (fun _ _ => rfl) (fun _ _ _ => rfl) (fun _ _ _ => rfl) (rgL 0 1 30) [] c1 none k1 (by simp)
      refine ⟨c2, P, a1, a2, by rw [a3]; simp, ?_⟩
      simp at e
      simp [late, h30, z30, e]
    · have z30 : ¬ (30 : Int) < ((frL t).length : Int) := by omega
      exact ⟨c1, frL t, k1, fun p hp => hp, by omega, by simp [late, h30, z30]⟩
  -- the names used
  obtain ⟨x18, hx18, e7⟩ := count_loop (i := 18) (p := fun w => decide (w.ar ≠ 2)) (T := fTest (fOp (eqF true) (oV 18) (oE (fC (.str "@"))))) (fun z => [some (.im ns), some (.pot c2), some (.im j), some (.im (pws t.pre)), some (.im (prg c.Program t.pre)), some (.im (prg c.RawProgram t.std.pre)), some (.im (.tup (ni (t.ends 0)))), some (.im (.lst (P.map fun (p : Nat) => D.int (p : Int)))), o8, o9, o10, o11, o12, o13, o14, o15, o16, none, z]) (fun x => rfl) (fun x d => rfl) (fun w hw => by rw [t_at true rfl hw]; cases w <;> simp [Pw.ar]) (fun w => by simp) t.pre [] none hok (by simp [t.pre_len]; omega)
  obtain ⟨y18, hy18, e8⟩ := takes_loop (fun z => [some (.im ns), some (.pot c2), some (.im j), some (.im (pws t.pre)), some (.im (prg c.Program t.pre)), some (.im (prg c.RawProgram t.std.pre)), some (.im (.tup (ni (t.ends 0)))), some (.im (.lst (P.map fun (p : Nat) => D.int (p : Int)))), o8, o9, o10, o11, o12, o13, o14, o15, o16, none, z]) (fun x => rfl) (fun x d => rfl) (fun d => rfl) t.pre [] none hok (by simp [t.pre_len]; omega)
  obtain ⟨U0, hU0⟩ : ∃ U0, U0 = (t.pre.filter fun w => decide (w.ar ≠ 2)).map wl ++ tkN t.pre := ⟨_, rfl⟩
  rw [map_wl (t.pre.filter fun w => decide (w.ar ≠ 2))] at e7
  have eU : nms ((t.pre.filter fun w => decide (w.ar ≠ 2)).map wl) ++ nms (tkN t.pre) = nms U0 := by rw [hU0, nms_app]
  have l1 : (nms ((t.pre.filter fun w => decide (w.ar ≠ 2)).map wl)).length ≤ t.size := by rw [nms_len, List.length_map, ← t.pre_len]; exact List.length_filter_le _ _
  have l2 : (nms (tkN t.pre)).length ≤ t.size := by rw [nms_len, tkN_pre]; exact t.takes_le
  have lU : U0.length ≤ 2 * t.size := by
    have := congrArg List.length eU
    rw [List.length_append, nms_len (R := U0)] at this
    omega
  have uU : ∀ n ∈ t.uses, n ∈ U0 := fun n hn => by
    rw [hU0]
    exact List.mem_append_left _ (List.mem_map.mpr ⟨.us n, List.mem_filter.mpr ⟨(t.mem_uses n).mp hn, by simp [Pw.ar]⟩, rfl⟩)
  have hz : (nms ((t.pre.filter fun w => decide (w.ar ≠ 2)).map wl)).length + (nms (tkN t.pre)).length ≤ 16777216 := by omega
  obtain ⟨c3, y, k3, hy, hyU, e9⟩ := law_fresh_eq (us := U0) k2 (by omega)
  have hyu : y ∉ t.uses := fun e => hyU (uU y e)
  obtain ⟨c4, V, p10, p11, p12, p13, p14, p15, p16, k4, e10⟩ := places_loop (c := c) g (by omega) hy hyu (some (.im ns)) (some (.im j)) (some (.im (.lst (P.map fun (p : Nat) => D.int (p : Int))))) P (U0 ++ [y]) c3 o10 o11 o12 o13 o14 o15 o16 k3 (by simp) (fun n hn => by simp [uU n hn]) (by simp; omega) hPm
  simp only [List.nil_append] at e7 e8
  refine ⟨c4, some (.im (pws t.pre)), some (.im (prg c.Program t.pre)), some (.im (prg c.RawProgram t.std.pre)), some (.im (.tup (ni (t.ends 0)))), some (.im (.lst (P.map fun (p : Nat) => D.int (p : Int)))), some (.lst (nms V)), some (.im (.str (mkS y))), p10, p11, p12, p13, p14, p15, p16, k4, ?_⟩
  unfold fb_law_2
  refine (fSeq_nx (s1 := [some (.im ns), some (.pot c1), some (.im j), some (.im (pws t.pre)), o4, o5, o6, o7, o8, o9, o10, o11, o12, o13, o14, o15, o16, none, none]) ?_).trans ?_
  · simp at e1
    simp [e1]
  refine (fSeq_nx (s1 := [some (.im ns), some (.pot c1), some (.im j), some (.im (pws t.pre)), some (.im (prg c.Program t.pre)), o5, o6, o7, o8, o9, o10, o11, o12, o13, o14, o15, o16, none, none]) ?_).trans ?_
  · simp [e2, made, prg]
  refine (fSeq_nx (s1 := [some (.im ns), some (.pot c1), some (.im j), some (.im (pws t.pre)), some (.im (prg c.Program t.pre)), some (.im (prg c.RawProgram t.std.pre)), o6, o7, o8, o9, o10, o11, o12, o13, o14, o15, o16, none, none]) ?_).trans ?_
  · simp [e3]
  refine (fSeq_nx (s1 := [some (.im ns), some (.pot c1), some (.im j), some (.im (pws t.pre)), some (.im (prg c.Program t.pre)), some (.im (prg c.RawProgram t.std.pre)), some (.im (.tup (ni (t.ends 0)))), o7, o8, o9, o10, o11, o12, o13, o14, o15, o16, none, none]) ?_).trans ?_
  · simp [e4]
  refine (fSeq_nx (s1 := [some (.im ns), some (.pot c1), some (.im j), some (.im (pws t.pre)), some (.im (prg c.Program t.pre)), some (.im (prg c.RawProgram t.std.pre)), some (.im (.tup (ni (t.ends 0)))), some (.im (.lst ((frL t).map fun (p : Nat) => D.int (p : Int)))), o8, o9, o10, o11, o12, o13, o14, o15, o16, none, none]) ?_).trans ?_
  · simp [e5]
  refine (fSeq_nx (s1 := [some (.im ns), some (.pot c2), some (.im j), some (.im (pws t.pre)), some (.im (prg c.Program t.pre)), some (.im (prg c.RawProgram t.std.pre)), some (.im (.tup (ni (t.ends 0)))), some (.im (.lst (P.map fun (p : Nat) => D.int (p : Int)))), o8, o9, o10, o11, o12, o13, o14, o15, o16, none, none]) ?_).trans ?_
  · exact e6
  refine (fSeq_nx (s1 := [some (.im ns), some (.pot c2), some (.im j), some (.im (pws t.pre)), some (.im (prg c.Program t.pre)), some (.im (prg c.RawProgram t.std.pre)), some (.im (.tup (ni (t.ends 0)))), some (.im (.lst (P.map fun (p : Nat) => D.int (p : Int)))), some (.lst (nms U0)), o9, o10, o11, o12, o13, o14, o15, o16, none, none]) ?_).trans ?_
  · rw [← eU]
    simp only [pws] at e7 e8
    simp only [ne_eq, decide_not] at hz e7
    simp [-fTest, pws, e7, e8, hz]
  refine (fSeq_nx (s1 := [some (.im ns), some (.pot c3), some (.im j), some (.im (pws t.pre)), some (.im (prg c.Program t.pre)), some (.im (prg c.RawProgram t.std.pre)), some (.im (.tup (ni (t.ends 0)))), some (.im (.lst (P.map fun (p : Nat) => D.int (p : Int)))), some (.lst (nms (U0 ++ [y]))), some (.im (.str (mkS y))), o10, o11, o12, o13, o14, o15, o16, none, none]) ?_).trans ?_
  · simp [e9]
  simp [e10]
end Once

/-! FA09d: the law. -/
namespace Once
open PySem PySem.Spec L2 OD F
theorem law_holds (c : Cs) (ns : List Int) (hn : ns.length ≤ 63) : ∃ outs, ff_law c [.im (.scr ns)] = .ok (.im (.bl true)) outs := by
  have hp : ff_law_pot [.im (.scr ns)] = .ok (.pot (potV ns)) [.im (.scr ns)] := by
    unfold ff_law_pot; dsimp only; rw [if_pos hn]
  have hs : cutL ns none (some 63) = ns := by
    have := cutL_pre ns 63
    rw [List.take_of_length_le hn] at this
    exact this
  obtain ⟨s', e, cp, o2, o3, o4, o5, o6, o7, o8, o9, o10, o11, o12, o13, o14, o15, o16, hc, rfl⟩ := forL_inv (tg := gName 2) (body := fb_law_2 c) (xs := rgL 0 1 (2 + ns.length / 16)) (s := [some (.im (.scr ns)), some (.pot (potV ns)), none, none, none, none, none, none, none, none, none, none, none, none, none, none, none, none, none])
    (fun j s => ∃ (cp : PotC) (o2 o3 o4 o5 o6 o7 o8 o9 o10 o11 o12 o13 o14 o15 o16 : Option Sv), cp.ss ≠ [] ∧ s = [some (.im (.scr ns)), some (.pot cp), o2, o3, o4, o5, o6, o7, o8, o9, o10, o11, o12, o13, o14, o15, o16, none, none])
    ⟨_, none, none, none, none, none, none, none, none, none, none, none, none, none, none, none, potV_ss, rfl⟩ fun j hj s w => by
      obtain ⟨cp, o2, o3, o4, o5, o6, o7, o8, o9, o10, o11, o12, o13, o14, o15, o16, hc, rfl⟩ := w
      obtain ⟨c', p3, p4, p5, p6, p7, p8, p9, p10, p11, p12, p13, p14, p15, p16, k1, e⟩ := fb_law_2_eq (c := c) (.scr ns) (.int j) cp hc o3 o4 o5 o6 o7 o8 o9 o10 o11 o12 o13 o14 o15 o16
      have ix : ((rgL 0 1 (2 + ns.length / 16))[j]'hj) = .int j := by simp
      exact ⟨_, _, by rw [ix]; rfl, e, c', _, _, _, _, _, _, _, _, _, _, _, _, _, _, _, k1, rfl⟩
  have z1 : (2 : Int) + (ns.length : Int) / 16 < 4611686018427387904 := by omega
  have z2 : -4611686018427387904 ≤ (2 : Int) + (ns.length : Int) / 16 := by omega
  have z3 : ((2 : Int) + (ns.length : Int) / 16).toNat = 2 + ns.length / 16 := by omega
  refine ⟨[.im (.scr ns)], ?_⟩
  simp only [rgL] at e
  try simp at e
  have z0 : Nat.log2 16 < 9000 := by decide
  simp [ff_law, fDef_eq, fb_law, hp, hs, late, z0, z1, z2, z3]
  simp [e]
end Once

/-! the walk, and the end -/
namespace Once
open PySem PySem.Spec L2 OD F
abbrev topS (i : Nat) : Stmt := PySem.Challenge.pw_oncekinds_k09_whole_parts_put_back.main.body.getD i (.Pass ⟨0, 0, 0, 0⟩)
section
variable {P : Program} {w : World} {K : PySem.W.Frag} {mg : Str → Option Value} {base : Heap}
abbrev s_law_pot : Stmt := topS 40
theorem sc_law_pot : FnScope ["_law_script", "_law_cells", "_law_greats", "_law_smalls", "_law_item"] ["_law_script"] (defScope s_law_pot) := ⟨rfl, rfl, rfl, by decide +kernel, rfl, by decide +kernel, by decide +kernel⟩
theorem ok_law_pot {f : Addr} {fd : FuncData} (Fn : Fun K "_law_pot" "_law_pot" s_law_pot f fd) (m : mg "_law_pot" = some (.ref f)) (z_int : mg "int" = none) (z_sum : mg "sum" = none) (z_abs : mg "abs" = none) (z_len : mg "len" = none) : DefOk P w K mg base 1 "_law_pot" ["_law_script"] (fdN 1 ff_law_pot) := by
  exact .of Fn m (Fn.binds fun _ _ _ _ _ _ us hl => match us, hl with | [_], _ => rfl) sc_law_pot fdN_len (fun cdv A outer s H E hr => by
    have hu := hr.units
    have nd := sc_law_pot.nd
    exact (db_cons (ds_setLc (i := 1) false (own := [("_law_item", 4)]) rfl nd (di_seq (de_sl (o := false) (de_var (pv 0)) do_none (do_some de_int))) (blkOk_by (N := ["_law_script", "_law_cells", "_law_greats", "_law_smalls", "_law_item"]) (sc := defScope s_law_pot) (by decide +kernel)) (fun _ _ _ _ _ => (dc_name (i := 4) nd (by decide))) (fun _ _ _ _ _ => dp_nil) (fun _ _ _ _ _ => (de_callTy call_int1 sc_int z_int (da_cons (de_var (pv 4)) da_nil))))
      (db_cons (ds_setLc (i := 2) true (own := [("_law_item", 4)]) rfl nd (di_seq (de_var (pv 1))) (blkOk_by (N := ["_law_script", "_law_cells", "_law_greats", "_law_smalls", "_law_item"]) (sc := defScope s_law_pot) (by decide +kernel)) (fun _ _ _ _ _ => (dc_name (i := 4) nd (by decide))) (fun _ _ _ _ _ => (dp_one (dt_cmp op_geA sv_ord (de_callB call_abs sc_abs z_abs (da_cons (de_var (pv 4)) da_nil)) (de_op op_pow sv_pow de_int de_int)))) (fun _ _ _ _ _ => (de_callB call_abs sc_abs z_abs (da_cons (de_var (pv 4)) da_nil))))
      (db_cons (ds_set (i := 3) nd (de_op op_addA (sv_add (o := true)) (de_lc false (own := [("_law_item", 4)]) rfl nd (di_seq (de_var (pv 1))) (blkOk_by (N := ["_law_script", "_law_cells", "_law_greats", "_law_smalls", "_law_item"]) (sc := defScope s_law_pot) (by decide +kernel)) (fun _ _ _ _ _ => (dc_name (i := 4) nd (by decide))) (fun _ _ _ _ _ => (dp_one (dt_cmp op_ltA sv_ord (de_callB call_abs sc_abs z_abs (da_cons (de_var (pv 4)) da_nil)) (de_op op_pow sv_pow de_int de_int)))) (fun _ _ _ _ _ => (de_op op_mod sv_mod (de_callTy call_int1 sc_int z_int (da_cons (de_var (pv 4)) da_nil)) de_int))) (de_lst false (da_cons (de_op op_addA (sv_add (o := false)) (de_callB call_lenA sc_len z_len (da_cons (de_var (pv 1)) da_nil)) de_int) da_nil))))
      (db_one (ds_ret false (de_lst true (da_cons (de_var (pv 2)) (da_cons (de_var (pv 3)) (da_cons de_int (da_cons (de_op op_mod sv_mod (de_callTy call_int1 sc_int z_int (da_cons (de_callB (cr_sum rfl) sc_sum z_sum (da_cons (de_var (pv 3)) da_nil)) da_nil)) de_int) da_nil))))))))))) F.rd_law_pot
abbrev s_law_draw : Stmt := topS 41
theorem sc_law_draw : FnScope ["_law_pot_here", "_law_many", "_law_turn", "_law_seed", "_law_number"] ["_law_pot_here", "_law_many"] (defScope s_law_draw) := ⟨rfl, rfl, rfl, by decide +kernel, rfl, by decide +kernel, by decide +kernel⟩
theorem ok_law_draw {f : Addr} {fd : FuncData} (Fn : Fun K "_law_draw" "_law_draw" s_law_draw f fd) (m : mg "_law_draw" = some (.ref f)) (z_int : mg "int" = none) (z_len : mg "len" = none) : DefOk P w K mg base 1 "_law_draw" ["_law_pot_here", "_law_many"] (fdN 2 ff_law_draw) := by
  exact .of Fn m (Fn.binds fun _ _ _ _ _ _ us hl => match us, hl with | [_, _], _ => rfl) sc_law_draw fdN_len (fun cdv A outer s H E hr => by
    have hu := hr.units
    have nd := sc_law_draw.nd
    exact (db_cons (ds_set (i := 2) nd (de_ix hu (de_var (pv 0)) de_int))
      (db_cons (ds_setIx hu (de_op op_addA (sv_add (o := false)) (de_var (pv 2)) de_int) (de_var (pv 0)) de_int)
      (db_cons (ds_if (dt_cmp op_gtA sv_ord (de_callB call_lenA sc_len z_len (da_cons (de_ix hu (de_var (pv 0)) de_int) da_nil)) de_int) (db_cons (ds_set (i := 4) nd (de_ix hu (de_ix hu (de_var (pv 0)) de_int) de_int))
      (db_cons (ds_setIx hu (de_op op_fdivW sv_div (de_var (pv 4)) (de_var (pv 1))) (de_ix hu (de_var (pv 0)) de_int) de_int)
      (db_cons (ds_if (dt_cmp op_ltA sv_ord (de_var (pv 4)) (de_var (pv 1))) (db_one (ds_expr (de_mth PySem.F.slot_list_pop PySem.F.type_list_pop mt_popAt sm_popAt (de_ix hu (de_var (pv 0)) de_int) (da_cons de_int da_nil)))) db_nil)
      (db_one (ds_ret false (de_op op_mod sv_mod (de_callTy call_int1 sc_int z_int (da_cons (de_var (pv 4)) da_nil)) (de_var (pv 1)))))))) db_nil)
      (db_cons (ds_set (i := 3) nd (de_op op_addA (sv_add (o := false)) (de_op op_addA (sv_add (o := false)) (de_op op_mulA (sv_mul (o := false)) (de_ix hu (de_ix hu (de_var (pv 0)) de_int) (de_op op_mod sv_mod (de_callTy call_int1 sc_int z_int (da_cons (de_var (pv 2)) da_nil)) (de_callB call_lenA sc_len z_len (da_cons (de_ix hu (de_var (pv 0)) de_int) da_nil)))) de_int) (de_op op_mulA (sv_mul (o := false)) de_int (de_var (pv 2)))) (de_op op_mulA (sv_mul (o := false)) (de_ix hu (de_var (pv 0)) de_int) de_int)))
      (db_cons (ds_set (i := 4) nd (de_op op_mod sv_mod (de_callTy call_int1 sc_int z_int (da_cons (de_op op_addA (sv_add (o := false)) (de_op op_mulA (sv_mul (o := false)) (de_var (pv 3)) de_int) de_int) da_nil)) de_int))
      (db_cons (ds_set (i := 4) nd (de_op op_mod sv_mod (de_callTy call_int1 sc_int z_int (da_cons (de_op op_mulA (sv_mul (o := false)) (de_var (pv 4)) (de_op op_addA (sv_add (o := false)) (de_op op_fdivW sv_div (de_var (pv 4)) de_int) de_int)) da_nil)) de_int))
      (db_cons (ds_set (i := 4) nd (de_op op_mod sv_mod (de_callTy call_int1 sc_int z_int (da_cons (de_op op_addA (sv_add (o := false)) (de_op op_mulA (sv_mul (o := false)) (de_var (pv 4)) (de_op op_addA (sv_add (o := false)) (de_op op_fdivW sv_div (de_var (pv 4)) de_int) de_int)) (de_var (pv 2))) da_nil)) de_int))
      (db_one (ds_ret false (de_op op_mod sv_mod (de_callTy call_int1 sc_int z_int (da_cons (de_op op_fdivW sv_div (de_var (pv 4)) de_int) da_nil)) (de_var (pv 1))))))))))))) F.rd_law_draw
abbrev s_law_size : Stmt := topS 47
theorem sc_law_size : FnScope ["_law_pot_here", "_law_most", "_law_turn"] ["_law_pot_here", "_law_most"] (defScope s_law_size) := ⟨rfl, rfl, rfl, by decide +kernel, rfl, by decide +kernel, by decide +kernel⟩
theorem ok_law_size {f : Addr} {fd : FuncData} {yy : Str} (Fn : Fun K "_law_size" "_law_size" s_law_size f fd) (m : mg yy = some (.ref f)) (c__law_draw : DefOk P w K mg base 1 "_law_draw" ["_law_pot_here", "_law_many"] (fdN 2 ff_law_draw)) (z_int : mg "int" = none) : DefOk P w K mg base 2 yy ["_law_pot_here", "_law_most"] (fdN 2 ff_law_size) := by
  exact DefOk.fnA Fn m (Fn.binds fun _ _ _ _ _ _ us hl => match us, hl with | [_, _], _ => rfl) sc_law_size rfl rfl (fun cdv A outer s H E hr => by
    have hu := hr.units
    have nd := sc_law_size.nd
    exact (db_cons (ds_set (i := 2) nd (de_callN c__law_draw (hr.mono (by decide)) (da_cons (de_var (pv 0)) (da_cons de_int da_nil))))
      (db_cons (ds_if (dt_cmp (op_eqA hu) sv_eq (de_var (pv 2)) de_int) (db_one (ds_ret false (de_callN c__law_draw (hr.mono (by decide)) (da_cons (de_var (pv 0)) (da_cons (de_op op_addA (sv_add (o := false)) (de_var (pv 1)) de_int) da_nil))))) db_nil)
      (db_one (ds_ret false (de_callN c__law_draw (hr.mono (by decide)) (da_cons (de_var (pv 0)) (da_cons (de_if (dt_cmp (op_eqA hu) sv_eq (de_op op_mod sv_mod (de_callTy call_int1 sc_int z_int (da_cons (de_var (pv 2)) da_nil)) de_int) de_int) de_int de_int) da_nil)))))))) sm_law_size
abbrev s_law_letters : Stmt := topS 43
theorem sc_law_letters : FnScope ["_law_number", "_law_found", "_law_left", "_law_turn"] ["_law_number"] (defScope s_law_letters) := ⟨rfl, rfl, rfl, by decide +kernel, rfl, by decide +kernel, by decide +kernel⟩
theorem ok_law_letters {f : Addr} {fd : FuncData} {yy : Str} (Fn : Fun K "_law_letters" "_law_letters" s_law_letters f fd) (m : mg yy = some (.ref f)) (z_int : mg "int" = none) (z_range : mg "range" = none) : DefOk P w K mg base 1 yy ["_law_number"] (fdN 1 ff_law_letters) := by
  exact DefOk.fnA Fn m (Fn.binds fun _ _ _ _ _ _ us hl => match us, hl with | [_], _ => rfl) sc_law_letters rfl rfl (fun cdv A outer s H E hr => by
    have hu := hr.units
    have nd := sc_law_letters.nd
    exact (db_cons (ds_set (i := 1) nd de_str)
      (db_cons (ds_set (i := 2) nd (de_op op_addA (sv_add (o := false)) (de_var (pv 0)) de_int))
      (db_cons (ds_for PassesOwn.never rfl (di_range1 z_range (da_cons de_int da_nil)) (dg_name (i := 3) nd) (db_one (ds_if (dt_cmp op_gtA sv_ord (de_var (pv 2)) de_int) (db_cons (ds_set (i := 2) nd (de_op op_sub sv_sub (de_var (pv 2)) de_int))
      (db_cons (ds_set (i := 1) nd (de_op op_addA (sv_add (o := false)) (de_ix hu de_str (de_op op_mod sv_mod (de_callTy call_int1 sc_int z_int (da_cons (de_var (pv 2)) da_nil)) de_int)) (de_var (pv 1))))
      (db_one (ds_set (i := 2) nd (de_op op_fdivW sv_div (de_var (pv 2)) de_int))))) db_nil)))
      (db_one (ds_ret false (de_var (pv 1)))))))) sm_law_letters
abbrev s_law_fresh : Stmt := topS 44
theorem sc_law_fresh : FnScope ["_law_pot_here", "_law_used", "_law_start", "_law_name", "_law_turn"] ["_law_pot_here", "_law_used"] (defScope s_law_fresh) := ⟨rfl, rfl, rfl, by decide +kernel, rfl, by decide +kernel, by decide +kernel⟩
theorem ok_law_fresh {f : Addr} {fd : FuncData} {yy : Str} (Fn : Fun K "_law_fresh" "_law_fresh" s_law_fresh f fd) (m : mg yy = some (.ref f)) (c__law_draw : DefOk P w K mg base 1 "_law_draw" ["_law_pot_here", "_law_many"] (fdN 2 ff_law_draw)) (c__law_letters : DefOk P w K mg base 1 "_law_letters" ["_law_number"] (fdN 1 ff_law_letters)) (z_range : mg "range" = none) (z_len : mg "len" = none) : DefOk P w K mg base 2 yy ["_law_pot_here", "_law_used"] (fdN 2 ff_law_fresh) := by
  exact DefOk.fnA Fn m (Fn.binds fun _ _ _ _ _ _ us hl => match us, hl with | [_, _], _ => rfl) sc_law_fresh rfl rfl (fun cdv A outer s H E hr => by
    have hu := hr.units
    have nd := sc_law_fresh.nd
    exact (db_cons (ds_set (i := 2) nd (de_callN c__law_draw (hr.mono (by decide)) (da_cons (de_var (pv 0)) (da_cons de_int da_nil))))
      (db_cons (ds_if (dt_cmp (op_eqA hu) sv_eq (de_callN c__law_draw (hr.mono (by decide)) (da_cons (de_var (pv 0)) (da_cons de_int da_nil))) de_int) (db_one (ds_set (i := 2) nd (de_callN c__law_draw (hr.mono (by decide)) (da_cons (de_var (pv 0)) (da_cons de_int da_nil))))) db_nil)
      (db_cons (ds_set (i := 3) nd de_str)
      (db_cons (ds_for PassesOwn.never rfl (di_range1 z_range (da_cons (de_op op_addA (sv_add (o := false)) (de_callB call_lenA sc_len z_len (da_cons (de_var (pv 1)) da_nil)) de_int) da_nil)) (dg_name (i := 4) nd) (db_cons (ds_set (i := 3) nd (de_callN c__law_letters (hr.mono (by decide)) (da_cons (de_op op_addA (sv_add (o := false)) (de_var (pv 2)) (de_var (pv 4))) da_nil)))
      (db_one (ds_if (dt_cmp (op_notInA hu) (sv_in (n := true)) (de_var (pv 3)) (de_var (pv 1))) (db_one ds_break) db_nil))))
      (db_cons (ds_expr (de_app (de_var (pv 1)) (de_var (pv 3))))
      (db_one (ds_ret false (de_var (pv 3)))))))))) sm_law_fresh
abbrev s_law_mixed : Stmt := topS 45
theorem sc_law_mixed : FnScope ["_law_pot_here", "_law_items", "_law_line", "_law_at", "_law_other"] ["_law_pot_here", "_law_items"] (defScope s_law_mixed) := ⟨rfl, rfl, rfl, by decide +kernel, rfl, by decide +kernel, by decide +kernel⟩
theorem ok_law_mixed {f : Addr} {fd : FuncData} {yy : Str} (Fn : Fun K "_law_mixed" "_law_mixed" s_law_mixed f fd) (m : mg yy = some (.ref f)) (c__law_draw : DefOk P w K mg base 1 "_law_draw" ["_law_pot_here", "_law_many"] (fdN 2 ff_law_draw)) (z_list : mg "list" = none) (z_len : mg "len" = none) (z_range : mg "range" = none) : DefOk P w K mg base 2 yy ["_law_pot_here", "_law_items"] (fdN 2 ff_law_mixed) := by
  exact DefOk.fnA Fn m (Fn.binds fun _ _ _ _ _ _ us hl => match us, hl with | [_, _], _ => rfl) sc_law_mixed rfl rfl (fun cdv A outer s H E hr => by
    have hu := hr.units
    have nd := sc_law_mixed.nd
    exact (db_cons (ds_set (i := 2) nd (de_callTy call_list_of (sc_list (o := true)) z_list (da_cons (de_var (pv 1)) da_nil)))
      (db_cons (ds_for PassesOwn.never rfl (di_range1 z_range (da_cons (de_callB call_lenA sc_len z_len (da_cons (de_var (pv 2)) da_nil)) da_nil)) (dg_name (i := 3) nd) (db_cons (ds_set (i := 4) nd (de_callN c__law_draw (hr.mono (by decide)) (da_cons (de_var (pv 0)) (da_cons (de_callB call_lenA sc_len z_len (da_cons (de_var (pv 2)) da_nil)) da_nil))))
      (db_one (ds_asg (de_tup (da_cons (de_ix hu (de_var (pv 2)) (de_var (pv 4))) (da_cons (de_ix hu (de_var (pv 2)) (de_var (pv 3))) da_nil))) (dg_tup rfl (dgs_cons (dg_sub hu (de_var (pv 2)) (de_var (pv 3))) (dgs_cons (dg_sub hu (de_var (pv 2)) (de_var (pv 4))) dgs_nil)))))))
      (db_one (ds_ret true (de_var (pv 2))))))) sm_law_mixed
abbrev s_law_words : Stmt := topS 46
theorem sc_law_words : FnScope ["_law_pot_here", "_law_names", "_law_givens", "_law_used", "_law_found", "_law_waiting", "_law_turn", "_law_row", "_law_many", "_law_name", "_law_least", "_law_cut", "_law_low", "_law_more"] ["_law_pot_here", "_law_names", "_law_givens", "_law_used"] (defScope s_law_words) := ⟨rfl, rfl, rfl, by decide +kernel, rfl, by decide +kernel, by decide +kernel⟩
theorem ok_law_words {f : Addr} {fd : FuncData} {yy : Str} (Fn : Fun K "_law_words" "_law_words" s_law_words f fd) (m : mg yy = some (.ref f)) (c__law_draw : DefOk P w K mg base 1 "_law_draw" ["_law_pot_here", "_law_many"] (fdN 2 ff_law_draw)) (c__law_fresh : DefOk P w K mg base 2 "_law_fresh" ["_law_pot_here", "_law_used"] (fdN 2 ff_law_fresh)) (c__law_mixed : DefOk P w K mg base 2 "_law_mixed" ["_law_pot_here", "_law_items"] (fdN 2 ff_law_mixed)) (z_list : mg "list" = none) (z_len : mg "len" = none) (z_max : mg "max" = none) (z_min : mg "min" = none) (z_range : mg "range" = none) (z_tuple : mg "tuple" = none) : DefOk P w K mg base 3 yy ["_law_pot_here", "_law_names", "_law_givens", "_law_used"] (fdN 4 ff_law_words) := by
  exact DefOk.fnA Fn m (Fn.binds fun _ _ _ _ _ _ us hl => match us, hl with | [_, _, _, _], _ => rfl) sc_law_words rfl rfl (fun cdv A outer s H E hr => by
    have hu := hr.units
    have nd := sc_law_words.nd
    exact (db_cons (ds_set (i := 4) nd (de_lst true da_nil))
      (db_cons (ds_set (i := 5) nd (de_lst true (da_cons (de_tup (da_cons (de_callTy call_list_of (sc_list (o := false)) z_list (da_cons (de_var (pv 1)) da_nil)) (da_cons (de_var (pv 2)) da_nil))) da_nil)))
      (db_cons (ds_for PassesOwn.never rfl (di_range1 z_range (da_cons (de_op op_addA (sv_add (o := false)) (de_op op_mulA (sv_mul (o := false)) de_int (de_var (pv 2))) de_int) da_nil)) (dg_name (i := 6) nd) (db_cons (ds_if (dt_cmp (op_eqA hu) sv_eq (de_callB call_lenA sc_len z_len (da_cons (de_var (pv 5)) da_nil)) de_int) (db_one ds_break) db_nil)
      (db_cons (ds_asg (de_mth0 PySem.F.slot_list_pop PySem.F.type_list_pop mt_pop sm_pop (de_var (pv 5))) (dg_tup rfl (dgs_cons (dg_name (i := 7) nd) (dgs_cons (dg_name (i := 8) nd) dgs_nil))))
      (db_one (ds_if (DWx.dt (dw_and (dt_cmp (op_eqA hu) sv_eq (de_var (pv 8)) de_int) (dw_and1 (dt_cmp (op_eqA hu) sv_eq (de_callB call_lenA sc_len z_len (da_cons (de_var (pv 7)) da_nil)) de_int)))) (db_one (ds_expr (de_app (de_var (pv 4)) (de_ix hu (de_var (pv 7)) de_int)))) (db_one (ds_if (DWx.dt (dw_or (dt_cmp (op_eqA hu) sv_eq (de_var (pv 8)) de_int) (dw_or1 (DWx.dt (dw_and (dt_cmp op_leA sv_ord (de_callB call_lenA sc_len z_len (da_cons (de_var (pv 7)) da_nil)) (de_var (pv 8))) (dw_and1 (dt_cmp (op_eqA hu) sv_eq (de_callN c__law_draw (hr.mono (by decide)) (da_cons (de_var (pv 0)) (da_cons de_int da_nil))) de_int))))))) (db_cons (ds_set (i := 9) nd (de_callN c__law_fresh (hr.mono (by decide)) (da_cons (de_var (pv 0)) (da_cons (de_var (pv 3)) da_nil))))
      (db_cons (ds_expr (de_app (de_var (pv 4)) (de_op op_addA (sv_add (o := false)) de_str (de_var (pv 9)))))
      (db_one (ds_expr (de_app (de_var (pv 5)) (de_tup (da_cons (de_op op_addA (sv_add (o := false)) (de_var (pv 7)) (de_lst false (da_cons (de_var (pv 9)) da_nil))) (da_cons (de_var (pv 8)) da_nil)))))))) (db_cons (ds_set (i := 7) nd (de_callN c__law_mixed (hr.mono (by decide)) (da_cons (de_var (pv 0)) (da_cons (de_var (pv 7)) da_nil))))
      (db_cons (ds_set (i := 10) nd (de_callB (call_max2 rfl) sc_max2 z_max (da_cons de_int (da_cons (de_op op_sub sv_sub (de_callB call_lenA sc_len z_len (da_cons (de_var (pv 7)) da_nil)) (de_var (pv 8))) da_nil))))
      (db_cons (ds_set (i := 11) nd (de_op op_addA (sv_add (o := false)) (de_var (pv 10)) (de_callN c__law_draw (hr.mono (by decide)) (da_cons (de_var (pv 0)) (da_cons (de_op op_addA (sv_add (o := false)) (de_op op_sub sv_sub (de_callB (call_min2 rfl) sc_min2 z_min (da_cons (de_callB call_lenA sc_len z_len (da_cons (de_var (pv 7)) da_nil)) (da_cons (de_var (pv 8)) da_nil))) (de_var (pv 10))) de_int) da_nil)))))
      (db_cons (ds_set (i := 12) nd (de_callB (call_max2 rfl) sc_max2 z_max (da_cons de_int (da_cons (de_op op_sub sv_sub (de_var (pv 11)) de_int) da_nil))))
      (db_cons (ds_set (i := 13) nd (de_op op_addA (sv_add (o := false)) (de_var (pv 12)) (de_callN c__law_draw (hr.mono (by decide)) (da_cons (de_var (pv 0)) (da_cons (de_op op_addA (sv_add (o := false)) (de_op op_sub sv_sub (de_op op_sub sv_sub (de_op op_sub sv_sub (de_var (pv 8)) de_int) (de_callB (call_max2 rfl) sc_max2 z_max (da_cons de_int (da_cons (de_op op_sub sv_sub (de_op op_sub sv_sub (de_callB call_lenA sc_len z_len (da_cons (de_var (pv 7)) da_nil)) (de_var (pv 11))) de_int) da_nil)))) (de_var (pv 12))) de_int) da_nil)))))
      (db_cons (ds_expr (de_app (de_var (pv 4)) de_str))
      (db_cons (ds_expr (de_app (de_var (pv 5)) (de_tup (da_cons (de_sl (o := false) (de_var (pv 7)) (do_some (de_var (pv 11))) do_none) (da_cons (de_op op_sub sv_sub (de_op op_sub sv_sub (de_var (pv 8)) de_int) (de_var (pv 13))) da_nil)))))
      (db_one (ds_expr (de_app (de_var (pv 5)) (de_tup (da_cons (de_sl (o := false) (de_var (pv 7)) do_none (do_some (de_var (pv 11)))) (da_cons (de_var (pv 13)) da_nil))))))))))))))))))))
      (db_one (ds_ret false (de_callTy call_tuple_of sc_tuple z_tuple (da_cons (de_var (pv 4)) da_nil)))))))) sm_law_words
abbrev s_law_program : Stmt := topS 48
theorem sc_law_program : FnScope ["_law_pot_here", "_law_most", "_law_many", "_law_givens", "_law_names", "_law_one"] ["_law_pot_here", "_law_most", "_law_many"] (defScope s_law_program) := ⟨rfl, rfl, rfl, by decide +kernel, rfl, by decide +kernel, by decide +kernel⟩
theorem ok_law_program {f : Addr} {fd : FuncData} {yy : Str} (Fn : Fun K "_law_program" "_law_program" s_law_program f fd) (m : mg yy = some (.ref f)) (c__law_size : DefOk P w K mg base 2 "_law_size" ["_law_pot_here", "_law_most"] (fdN 2 ff_law_size)) (c__law_fresh : DefOk P w K mg base 2 "_law_fresh" ["_law_pot_here", "_law_used"] (fdN 2 ff_law_fresh)) (c__law_draw : DefOk P w K mg base 1 "_law_draw" ["_law_pot_here", "_law_many"] (fdN 2 ff_law_draw)) (c__law_words : DefOk P w K mg base 3 "_law_words" ["_law_pot_here", "_law_names", "_law_givens", "_law_used"] (fdN 4 ff_law_words)) (z_range : mg "range" = none) (z_min : mg "min" = none) (z_list : mg "list" = none) : DefOk P w K mg base 4 yy ["_law_pot_here", "_law_most", "_law_many"] (fdN 3 ff_law_program) := by
  exact DefOk.fnA Fn m (Fn.binds fun _ _ _ _ _ _ us hl => match us, hl with | [_, _, _], _ => rfl) sc_law_program rfl rfl (fun cdv A outer s H E hr => by
    have hu := hr.units
    have nd := sc_law_program.nd
    exact (db_cons (ds_set (i := 3) nd (de_callN c__law_size (hr.mono (by decide)) (da_cons (de_var (pv 0)) (da_cons (de_var (pv 1)) da_nil))))
      (db_cons (ds_set (i := 4) nd (de_lst true da_nil))
      (db_cons (ds_for PassesOwn.never rfl (di_range1 z_range (da_cons (de_callB (call_min2 rfl) sc_min2 z_min (da_cons (de_callN c__law_draw (hr.mono (by decide)) (da_cons (de_var (pv 0)) (da_cons (de_op op_addA (sv_add (o := false)) (de_var (pv 2)) de_int) da_nil))) (da_cons (de_op op_addA (sv_add (o := false)) (de_var (pv 3)) de_int) da_nil))) da_nil)) (dg_name (i := 5) nd) (db_one (ds_expr (de_callN c__law_fresh (hr.mono (by decide)) (da_cons (de_var (pv 0)) (da_cons (de_var (pv 4)) da_nil))))))
      (db_one (ds_ret false (de_callN c__law_words (hr.mono (by decide)) (da_cons (de_var (pv 0)) (da_cons (de_callTy call_list_of (sc_list (o := false)) z_list (da_cons (de_var (pv 4)) da_nil)) (da_cons (de_var (pv 3)) (da_cons (de_var (pv 4)) da_nil))))))))))) sm_law_program
abbrev s_is_take : Stmt := topS 13
theorem sc_is_take : FnScope ["word"] ["word"] (defScope s_is_take) := ⟨rfl, rfl, rfl, by decide +kernel, rfl, by decide +kernel, by decide +kernel⟩
theorem ok_is_take {f : Addr} {fd : FuncData} {yy : Str} (Fn : Fun K "is_take" "is_take" s_is_take f fd) (m : mg yy = some (.ref f))  : DefOk P w K mg base 1 yy ["word"] (fdN 1 ff_is_take) := by
  exact DefOk.fnA Fn m (Fn.binds fun _ _ _ _ _ _ us hl => match us, hl with | [_], _ => rfl) sc_is_take rfl rfl (fun cdv A outer s H E hr => by
    have hu := hr.units
    have nd := sc_is_take.nd
    exact (db_one (ds_ret false (de_cmp (op_eqA hu) sv_eq (de_sl (o := false) (de_var (pv 0)) do_none (do_some de_int)) de_str)))) sm_is_take
abbrev s_name_of : Stmt := topS 14
theorem sc_name_of : FnScope ["word"] ["word"] (defScope s_name_of) := ⟨rfl, rfl, rfl, by decide +kernel, rfl, by decide +kernel, by decide +kernel⟩
theorem ok_name_of {f : Addr} {fd : FuncData} {yy : Str} (Fn : Fun K "name_of" "name_of" s_name_of f fd) (m : mg yy = some (.ref f)) (c_is_take : DefOk P w K mg base 1 "is_take" ["word"] (fdN 1 ff_is_take)) : DefOk P w K mg base 2 yy ["word"] (fdN 1 ff_name_of) := by
  exact DefOk.fnA Fn m (Fn.binds fun _ _ _ _ _ _ us hl => match us, hl with | [_], _ => rfl) sc_name_of rfl rfl (fun cdv A outer s H E hr => by
    have hu := hr.units
    have nd := sc_name_of.nd
    exact (db_one (ds_ret false (de_if (dt_tru (de_callN c_is_take (hr.mono (by decide)) (da_cons (de_var (pv 0)) da_nil))) (de_sl (o := false) (de_var (pv 0)) (do_some de_int) do_none) (de_var (pv 0)))))) sm_name_of
abbrev s_taken : Stmt := topS 21
theorem sc_taken : FnScope ["words", "place", "word"] ["words"] (defScope s_taken) := ⟨rfl, rfl, rfl, by decide +kernel, rfl, by decide +kernel, by decide +kernel⟩
theorem ok_taken {f : Addr} {fd : FuncData} {yy : Str} (Fn : Fun K "taken" "taken" s_taken f fd) (m : mg yy = some (.ref f)) (c_is_take : DefOk P w K mg base 1 "is_take" ["word"] (fdN 1 ff_is_take)) (c_name_of : DefOk P w K mg base 2 "name_of" ["word"] (fdN 1 ff_name_of)) (z_enumerate : mg "enumerate" = none) : DefOk P w K mg base 3 yy ["words"] (fdN 1 ff_taken) := by
  exact DefOk.fnA Fn m (Fn.binds fun _ _ _ _ _ _ us hl => match us, hl with | [_], _ => rfl) sc_taken rfl rfl (fun cdv A outer s H E hr => by
    have hu := hr.units
    have nd := sc_taken.nd
    exact (db_one (ds_ret false (de_dc false (own := [("place", 1), ("word", 2)]) rfl nd (di_enum z_enumerate (da_cons (de_var (pv 0)) da_nil)) (blkOk_by (N := ["words", "place", "word"]) (sc := defScope s_taken) (by decide +kernel)) (fun _ _ _ _ _ => (dc_tup rfl (dcs_cons (dc_name (i := 1) nd (by decide)) (dcs_cons (dc_name (i := 2) nd (by decide)) dcs_nil)))) (fun _ _ _ _ _ => (dp_one (dt_tru (de_callN c_is_take (hr.mono (by decide)) (da_cons (de_var (pv 2)) da_nil))))) (fun _ _ _ _ _ => (de_callN c_name_of (hr.mono (by decide)) (da_cons (de_var (pv 2)) da_nil))) (fun _ _ _ _ _ => (de_var (pv 1))))))) sm_taken
abbrev s_is_give : Stmt := topS 12
theorem sc_is_give : FnScope ["word"] ["word"] (defScope s_is_give) := ⟨rfl, rfl, rfl, by decide +kernel, rfl, by decide +kernel, by decide +kernel⟩
theorem ok_is_give {f : Addr} {fd : FuncData} {yy : Str} (Fn : Fun K "is_give" "is_give" s_is_give f fd) (m : mg yy = some (.ref f))  : DefOk P w K mg base 1 yy ["word"] (fdN 1 ff_is_give) := by
  exact DefOk.fnA Fn m (Fn.binds fun _ _ _ _ _ _ us hl => match us, hl with | [_], _ => rfl) sc_is_give rfl rfl (fun cdv A outer s H E hr => by
    have hu := hr.units
    have nd := sc_is_give.nd
    exact (db_one (ds_ret false (de_cmp (op_eqA hu) sv_eq (de_var (pv 0)) de_str)))) sm_is_give
abbrev s_raw_open : Stmt := topS 26
theorem sc_raw_open : FnScope ["words", "known", "word"] ["words"] (defScope s_raw_open) := ⟨rfl, rfl, rfl, by decide +kernel, rfl, by decide +kernel, by decide +kernel⟩
theorem ok_raw_open {f : Addr} {fd : FuncData} {yy : Str} (Fn : Fun K "raw_open" "raw_open" s_raw_open f fd) (m : mg yy = some (.ref f)) (c_taken : DefOk P w K mg base 3 "taken" ["words"] (fdN 1 ff_taken)) (c_is_give : DefOk P w K mg base 1 "is_give" ["word"] (fdN 1 ff_is_give)) (c_is_take : DefOk P w K mg base 1 "is_take" ["word"] (fdN 1 ff_is_take)) (z_tuple : mg "tuple" = none) : DefOk P w K mg base 4 yy ["words"] (fdN 1 ff_raw_open) := by
  exact DefOk.fnA Fn m (Fn.binds fun _ _ _ _ _ _ us hl => match us, hl with | [_], _ => rfl) sc_raw_open rfl rfl (fun cdv A outer s H E hr => by
    have hu := hr.units
    have nd := sc_raw_open.nd
    exact (db_cons (ds_set (i := 1) nd (de_callN c_taken (hr.mono (by decide)) (da_cons (de_var (pv 0)) da_nil)))
      (db_one (ds_ret false (de_callTy call_tuple_of sc_tuple z_tuple (da_cons (de_lc false (own := [("word", 2)]) rfl nd (di_seq (de_var (pv 0))) (blkOk_by (N := ["words", "known", "word"]) (sc := defScope s_raw_open) (by decide +kernel)) (fun _ _ _ _ _ => (dc_name (i := 2) nd (by decide))) (fun _ _ _ _ _ => (dp_one (DWx.dt (dw_and (dt_not (dt_tru (de_callN c_is_give (hr.mono (by decide)) (da_cons (de_var (pv 2)) da_nil)))) (dw_and (dt_not (dt_tru (de_callN c_is_take (hr.mono (by decide)) (da_cons (de_var (pv 2)) da_nil)))) (dw_and1 (dt_cmp (op_notInA hu) (sv_in (n := true)) (de_var (pv 2)) (de_var (pv 1))))))))) (fun _ _ _ _ _ => (de_var (pv 2)))) da_nil)))))) sm_raw_open
abbrev s_letters_name : Stmt := topS 31
theorem sc_letters_name : FnScope ["number", "found", "left"] ["number"] (defScope s_letters_name) := ⟨rfl, rfl, rfl, by decide +kernel, rfl, by decide +kernel, by decide +kernel⟩
theorem ok_letters_name {f : Addr} {fd : FuncData} {yy : Str} (Fn : Fun K "letters_name" "letters_name" s_letters_name f fd) (m : mg yy = some (.ref f)) (m_LETTERS : ∃ t, mg "LETTERS" = some (.str "abcdefghijklmnopqrstuvwxyz" t)) : DefOk P w K mg base 1 yy ["number"] (fdN 1 ff_letters_name) := by
  obtain ⟨t_LETTERS, m_LETTERS⟩ := m_LETTERS
  exact DefOk.fnA Fn m (Fn.binds fun _ _ _ _ _ _ us hl => match us, hl with | [_], _ => rfl) sc_letters_name rfl rfl (fun cdv A outer s H E hr => by
    have hu := hr.units
    have nd := sc_letters_name.nd
    exact (db_cons (ds_set (i := 1) nd de_str)
      (db_cons (ds_set (i := 2) nd (de_op op_addA (sv_add (o := false)) (de_var (pv 0)) de_int))
      (db_cons (ds_while PassesOwn.never (dt_cmp op_gtA sv_ord (de_var (pv 2)) de_int) (db_cons (ds_aug (i := 2) nd iop_sub sv_sub de_int)
      (db_cons (ds_set (i := 1) nd (de_op op_addA (sv_add (o := false)) (de_ix hu (de_glob (v := .str "abcdefghijklmnopqrstuvwxyz") rfl m_LETTERS ⟨_, rfl⟩ (fun _ _ => .str _)) (de_op op_mod sv_mod (de_var (pv 2)) de_int)) (de_var (pv 1))))
      (db_one (ds_set (i := 2) nd (de_op op_fdivW sv_div (de_var (pv 2)) de_int))))))
      (db_one (ds_ret false (de_var (pv 1)))))))) sm_letters_name
abbrev s_word_renamed : Stmt := topS 32
theorem sc_word_renamed : FnScope ["word", "called"] ["word", "called"] (defScope s_word_renamed) := ⟨rfl, rfl, rfl, by decide +kernel, rfl, by decide +kernel, by decide +kernel⟩
theorem ok_word_renamed {f : Addr} {fd : FuncData} {yy : Str} (Fn : Fun K "word_renamed" "word_renamed" s_word_renamed f fd) (m : mg yy = some (.ref f)) (c_is_give : DefOk P w K mg base 1 "is_give" ["word"] (fdN 1 ff_is_give)) (c_is_take : DefOk P w K mg base 1 "is_take" ["word"] (fdN 1 ff_is_take)) (c_name_of : DefOk P w K mg base 2 "name_of" ["word"] (fdN 1 ff_name_of)) : DefOk P w K mg base 3 yy ["word", "called"] (fdN 2 ff_word_renamed) := by
  exact DefOk.fnA Fn m (Fn.binds fun _ _ _ _ _ _ us hl => match us, hl with | [_, _], _ => rfl) sc_word_renamed rfl rfl (fun cdv A outer s H E hr => by
    have hu := hr.units
    have nd := sc_word_renamed.nd
    exact (db_cons (ds_if (dt_tru (de_callN c_is_give (hr.mono (by decide)) (da_cons (de_var (pv 0)) da_nil))) (db_one (ds_ret false (de_var (pv 0)))) db_nil)
      (db_one (ds_ret false (de_if (dt_tru (de_callN c_is_take (hr.mono (by decide)) (da_cons (de_var (pv 0)) da_nil))) (de_op op_addA (sv_add (o := false)) de_str (de_ix hu (de_var (pv 1)) (de_callN c_name_of (hr.mono (by decide)) (da_cons (de_var (pv 0)) da_nil)))) (de_ix hu (de_var (pv 1)) (de_var (pv 0)))))))) sm_word_renamed
abbrev s_words_renamed : Stmt := topS 33
theorem sc_words_renamed : FnScope ["words", "called", "word"] ["words", "called"] (defScope s_words_renamed) := ⟨rfl, rfl, rfl, by decide +kernel, rfl, by decide +kernel, by decide +kernel⟩
theorem ok_words_renamed {f : Addr} {fd : FuncData} {yy : Str} (Fn : Fun K "words_renamed" "words_renamed" s_words_renamed f fd) (m : mg yy = some (.ref f)) (c_word_renamed : DefOk P w K mg base 3 "word_renamed" ["word", "called"] (fdN 2 ff_word_renamed)) (z_tuple : mg "tuple" = none) : DefOk P w K mg base 4 yy ["words", "called"] (fdN 2 ff_words_renamed) := by
  exact DefOk.fnA Fn m (Fn.binds fun _ _ _ _ _ _ us hl => match us, hl with | [_, _], _ => rfl) sc_words_renamed rfl rfl (fun cdv A outer s H E hr => by
    have hu := hr.units
    have nd := sc_words_renamed.nd
    exact (db_one (ds_ret false (de_callTy call_tuple_of sc_tuple z_tuple (da_cons (de_lc false (own := [("word", 2)]) rfl nd (di_seq (de_var (pv 0))) (blkOk_by (N := ["words", "called", "word"]) (sc := defScope s_words_renamed) (by decide +kernel)) (fun _ _ _ _ _ => (dc_name (i := 2) nd (by decide))) (fun _ _ _ _ _ => dp_nil) (fun _ _ _ _ _ => (de_callN c_word_renamed (hr.mono (by decide)) (da_cons (de_var (pv 2)) (da_cons (de_var (pv 1)) da_nil))))) da_nil))))) sm_words_renamed
abbrev s_raw_standard : Stmt := topS 34
theorem sc_raw_standard : FnScope ["words", "called", "barred", "number", "word", "name"] ["words"] (defScope s_raw_standard) := ⟨rfl, rfl, rfl, by decide +kernel, rfl, by decide +kernel, by decide +kernel⟩
theorem ok_raw_standard {f : Addr} {fd : FuncData} {yy : Str} (Fn : Fun K "raw_standard" "raw_standard" s_raw_standard f fd) (m : mg yy = some (.ref f)) (c_raw_open : DefOk P w K mg base 4 "raw_open" ["words"] (fdN 1 ff_raw_open)) (c_is_take : DefOk P w K mg base 1 "is_take" ["word"] (fdN 1 ff_is_take)) (c_letters_name : DefOk P w K mg base 1 "letters_name" ["number"] (fdN 1 ff_letters_name)) (c_name_of : DefOk P w K mg base 2 "name_of" ["word"] (fdN 1 ff_name_of)) (c_words_renamed : DefOk P w K mg base 4 "words_renamed" ["words", "called"] (fdN 2 ff_words_renamed)) : DefOk P w K mg base 5 yy ["words"] (fdN 1 ff_raw_standard) := by
  exact DefOk.fnA Fn m (Fn.binds fun _ _ _ _ _ _ us hl => match us, hl with | [_], _ => rfl) sc_raw_standard rfl rfl (fun cdv A outer s H E hr => by
    have hu := hr.units
    have nd := sc_raw_standard.nd
    exact (db_cons (ds_setDc (i := 1) true (own := [("name", 5)]) rfl nd (di_seq (de_callN c_raw_open (hr.mono (by decide)) (da_cons (de_var (pv 0)) da_nil))) (blkOk_by (N := ["words", "called", "barred", "number", "word", "name"]) (sc := defScope s_raw_standard) (by decide +kernel)) (fun _ _ _ _ _ => (dc_name (i := 5) nd (by decide))) (fun _ _ _ _ _ => dp_nil) (fun _ _ _ _ _ => (de_var (pv 5))) (fun _ _ _ _ _ => (de_var (pv 5))))
      (db_cons (ds_set (i := 2) nd (de_dcopy false (de_var (pv 1))))
      (db_cons (ds_set (i := 3) nd de_int)
      (db_cons (ds_for PassesOwn.never rfl (di_seq (de_var (pv 0))) (dg_name (i := 4) nd) (db_one (ds_if (dt_tru (de_callN c_is_take (hr.mono (by decide)) (da_cons (de_var (pv 4)) da_nil))) (db_cons (ds_while PassesOwn.never (dt_cmp (op_inA hu) (sv_in (n := false)) (de_callN c_letters_name (hr.mono (by decide)) (da_cons (de_var (pv 3)) da_nil)) (de_var (pv 2))) (db_one (ds_aug (i := 3) nd op_iaddA sv_iadd de_int)))
      (db_cons (ds_setIx hu (de_callN c_letters_name (hr.mono (by decide)) (da_cons (de_var (pv 3)) da_nil)) (de_var (pv 1)) (de_callN c_name_of (hr.mono (by decide)) (da_cons (de_var (pv 4)) da_nil)))
      (db_one (ds_aug (i := 3) nd op_iaddA sv_iadd de_int)))) db_nil)))
      (db_one (ds_ret false (de_callN c_words_renamed (hr.mono (by decide)) (da_cons (de_var (pv 0)) (da_cons (de_var (pv 1)) da_nil)))))))))) sm_raw_standard
abbrev s_RawProgram_init : Stmt := inClass (topS 25) 0
theorem sc_RawProgram_init : FnScope ["self", "words"] ["self", "words"] (defScope s_RawProgram_init) := ⟨rfl, rfl, rfl, by decide +kernel, rfl, by decide +kernel, by decide +kernel⟩
theorem ok_RawProgram_init {f : Addr} {fd : FuncData} {c : Cs} (Fn : Fun K "__init__" "RawProgram.__init__" s_RawProgram_init f fd) (z_tuple : mg "tuple" = none) (hF_words : ∀ C, c.P C → Cls K C ∧ NoAttr K C "words") : FnOk P w K mg base CX0 1 f fd ["self", "words"] (spD K (fdN 2 (ff_RawProgram_init c))) := by
  exact fn_fn Fn sc_RawProgram_init rfl rfl (fun cdv A outer s H E hr => by
    have hu := hr.units
    have nd := sc_RawProgram_init.nd
    exact (db_one (ds_setF hF_words (de_callTy call_tuple_of sc_tuple z_tuple (da_cons (de_var (pv 1)) da_nil)) (de_var (pv 0))))) sm_RawProgram_init
abbrev s_standard : Stmt := topS 35
theorem sc_standard : FnScope ["program"] ["program"] (defScope s_standard) := ⟨rfl, rfl, rfl, by decide +kernel, rfl, by decide +kernel, by decide +kernel⟩
theorem ok_standard {f : Addr} {fd : FuncData} {yy : Str} {c : Cs} (Fn : Fun K "standard" "standard" s_standard f fd) (m : mg yy = some (.ref f)) (c_raw_standard : DefOk P w K mg base 5 "raw_standard" ["words"] (fdN 1 ff_raw_standard)) (k_RawProgram : MkOk P w K mg base 1 "RawProgram" c.RawProgram ["self", "words"] (fdN 2 (ff_RawProgram_init c))) (hF_words : ∀ C, c.P C → Cls K C ∧ NoAttr K C "words") : DefOk P w K mg base 6 yy ["program"] (fdN 1 (ff_standard c)) := by
  exact DefOk.fnA Fn m (Fn.binds fun _ _ _ _ _ _ us hl => match us, hl with | [_], _ => rfl) sc_standard rfl rfl (fun cdv A outer s H E hr => by
    have hu := hr.units
    have nd := sc_standard.nd
    exact (db_one (ds_ret false (de_make k_RawProgram (hr.mono (by decide)) [] false (da_cons (de_callN c_raw_standard (hr.mono (by decide)) (da_cons (de_fld hF_words (de_var (pv 0))) da_nil)) da_nil))))) sm_standard
abbrev s_law_ends : Stmt := topS 49
theorem sc_law_ends : FnScope ["_law_words_here", "_law_found", "_law_whole", "_law_place", "_law_end", "_law_turn"] ["_law_words_here"] (defScope s_law_ends) := ⟨rfl, rfl, rfl, by decide +kernel, rfl, by decide +kernel, by decide +kernel⟩
theorem ok_law_ends {f : Addr} {fd : FuncData} {yy : Str} (Fn : Fun K "_law_ends" "_law_ends" s_law_ends f fd) (m : mg yy = some (.ref f)) (z_len : mg "len" = none) (z_range : mg "range" = none) (z_int : mg "int" = none) (z_tuple : mg "tuple" = none) : DefOk P w K mg base 1 yy ["_law_words_here"] (fdN 1 ff_law_ends) := by
  exact DefOk.fnA Fn m (Fn.binds fun _ _ _ _ _ _ us hl => match us, hl with | [_], _ => rfl) sc_law_ends rfl rfl (fun cdv A outer s H E hr => by
    have hu := hr.units
    have nd := sc_law_ends.nd
    exact (db_cons (ds_set (i := 1) nd (de_op op_mulA (sv_mul (o := true)) (de_lst false (da_cons de_int da_nil)) (de_callB call_lenA sc_len z_len (da_cons (de_var (pv 0)) da_nil))))
      (db_cons (ds_set (i := 2) nd (de_lst true da_nil))
      (db_cons (ds_for PassesOwn.never rfl (di_range3 z_range (da_cons (de_op op_sub sv_sub (de_callB call_lenA sc_len z_len (da_cons (de_var (pv 0)) da_nil)) de_int) (da_cons (de_un un_neg sv_neg de_int) (da_cons (de_un un_neg sv_neg de_int) da_nil)))) (dg_name (i := 3) nd) (db_cons (ds_set (i := 4) nd (de_op op_addA (sv_add (o := false)) (de_var (pv 3)) de_int))
      (db_cons (ds_for PassesOwn.never rfl (di_range1 z_range (da_cons (de_if (dt_cmp (op_eqA hu) sv_eq (de_ix hu (de_var (pv 0)) (de_var (pv 3))) de_str) de_int (de_callTy call_int1 sc_int z_int (da_cons (de_cmp (op_eqA hu) sv_eq (de_sl (o := false) (de_ix hu (de_var (pv 0)) (de_var (pv 3))) do_none (do_some de_int)) de_str) da_nil))) da_nil)) (dg_name (i := 5) nd) (db_one (ds_set (i := 4) nd (de_mth0 PySem.F.slot_list_pop PySem.F.type_list_pop mt_pop sm_pop (de_var (pv 2))))))
      (db_cons (ds_setIx hu (de_var (pv 4)) (de_var (pv 1)) (de_var (pv 3)))
      (db_one (ds_expr (de_app (de_var (pv 2)) (de_var (pv 4)))))))))
      (db_one (ds_ret false (de_callTy call_tuple_of sc_tuple z_tuple (da_cons (de_var (pv 1)) da_nil)))))))) sm_law_ends
abbrev s_law_open : Stmt := topS 50
theorem sc_law_open : FnScope ["_law_words_here", "_law_known", "_law_word"] ["_law_words_here"] (defScope s_law_open) := ⟨rfl, rfl, rfl, by decide +kernel, rfl, by decide +kernel, by decide +kernel⟩
theorem ok_law_open {f : Addr} {fd : FuncData} {yy : Str} (Fn : Fun K "_law_open" "_law_open" s_law_open f fd) (m : mg yy = some (.ref f))  : DefOk P w K mg base 1 yy ["_law_words_here"] (fdN 1 ff_law_open) := by
  exact DefOk.fnA Fn m (Fn.binds fun _ _ _ _ _ _ us hl => match us, hl with | [_], _ => rfl) sc_law_open rfl rfl (fun cdv A outer s H E hr => by
    have hu := hr.units
    have nd := sc_law_open.nd
    exact (db_cons (ds_set (i := 1) nd (de_dic0 true))
      (db_cons (ds_for PassesOwn.never rfl (di_seq (de_var (pv 0))) (dg_name (i := 2) nd) (db_one (ds_if (dt_cmp (op_eqA hu) sv_eq (de_sl (o := false) (de_var (pv 2)) do_none (do_some de_int)) de_str) (db_one (ds_setIx hu de_bl (de_var (pv 1)) (de_sl (o := false) (de_var (pv 2)) (do_some de_int) do_none))) db_nil)))
      (db_one (ds_ret false (de_lc false (own := [("_law_word", 2)]) rfl nd (di_seq (de_var (pv 0))) (blkOk_by (N := ["_law_words_here", "_law_known", "_law_word"]) (sc := defScope s_law_open) (by decide +kernel)) (fun _ _ _ _ _ => (dc_name (i := 2) nd (by decide))) (fun _ _ _ _ _ => (dp_one (DWx.dt (dw_and (dt_cmp (op_neA hu) sv_ne (de_var (pv 2)) de_str) (dw_and (dt_cmp (op_neA hu) sv_ne (de_sl (o := false) (de_var (pv 2)) do_none (do_some de_int)) de_str) (dw_and1 (dt_cmp (op_notInA hu) (sv_in (n := true)) (de_var (pv 2)) (de_var (pv 1))))))))) (fun _ _ _ _ _ => (de_var (pv 2))))))))) sm_law_open
abbrev s_law_free_places : Stmt := topS 51
theorem sc_law_free_places : FnScope ["_law_words_here", "_law_outer", "_law_ends_here", "_law_found", "_law_place", "_law_inner", "_law_name"] ["_law_words_here"] (defScope s_law_free_places) := ⟨rfl, rfl, rfl, by decide +kernel, rfl, by decide +kernel, by decide +kernel⟩
theorem ok_law_free_places {f : Addr} {fd : FuncData} {yy : Str} (Fn : Fun K "_law_free_places" "_law_free_places" s_law_free_places f fd) (m : mg yy = some (.ref f)) (c__law_open : DefOk P w K mg base 1 "_law_open" ["_law_words_here"] (fdN 1 ff_law_open)) (c__law_ends : DefOk P w K mg base 1 "_law_ends" ["_law_words_here"] (fdN 1 ff_law_ends)) (z_all : mg "all" = none) (z_range : mg "range" = none) (z_len : mg "len" = none) : DefOk P w K mg base 2 yy ["_law_words_here"] (fdN 1 ff_law_free_places) := by
  exact DefOk.fnA Fn m (Fn.binds fun _ _ _ _ _ _ us hl => match us, hl with | [_], _ => rfl) sc_law_free_places rfl rfl (fun cdv A outer s H E hr => by
    have hu := hr.units
    have nd := sc_law_free_places.nd
    exact (db_cons (ds_set (i := 1) nd (de_callN c__law_open (hr.mono (by decide)) (da_cons (de_var (pv 0)) da_nil)))
      (db_cons (ds_set (i := 2) nd (de_callN c__law_ends (hr.mono (by decide)) (da_cons (de_var (pv 0)) da_nil)))
      (db_cons (ds_set (i := 3) nd (de_lst true da_nil))
      (db_cons (ds_for PassesOwn.never rfl (di_range1 z_range (da_cons (de_callB call_lenA sc_len z_len (da_cons (de_var (pv 0)) da_nil)) da_nil)) (dg_name (i := 4) nd) (db_cons (ds_set (i := 5) nd (de_callN c__law_open (hr.mono (by decide)) (da_cons (de_sl (o := false) (de_var (pv 0)) (do_some (de_var (pv 4))) (do_some (de_ix hu (de_var (pv 2)) (de_var (pv 4))))) da_nil)))
      (db_one (ds_if (dt_tru (de_callB (cr_all rfl) sc_all z_all (da_cons (de_lc false (own := [("_law_name", 6)]) rfl nd (di_seq (de_var (pv 5))) (blkOk_by (N := ["_law_words_here", "_law_outer", "_law_ends_here", "_law_found", "_law_place", "_law_inner", "_law_name"]) (sc := defScope s_law_free_places) (by decide +kernel)) (fun _ _ _ _ _ => (dc_name (i := 6) nd (by decide))) (fun _ _ _ _ _ => dp_nil) (fun _ _ _ _ _ => (de_cmp (op_inA hu) (sv_in (n := false)) (de_var (pv 6)) (de_var (pv 1))))) da_nil))) (db_one (ds_expr (de_app (de_var (pv 3)) (de_var (pv 4))))) db_nil))))
      (db_one (ds_ret true (de_var (pv 3))))))))) sm_law_free_places
abbrev s_law_any : Stmt := topS 42
theorem sc_law_any : FnScope ["_law_pot_here", "_law_items"] ["_law_pot_here", "_law_items"] (defScope s_law_any) := ⟨rfl, rfl, rfl, by decide +kernel, rfl, by decide +kernel, by decide +kernel⟩
theorem ok_law_any {f : Addr} {fd : FuncData} {yy : Str} (Fn : Fun K "_law_any" "_law_any" s_law_any f fd) (m : mg yy = some (.ref f)) (c__law_draw : DefOk P w K mg base 1 "_law_draw" ["_law_pot_here", "_law_many"] (fdN 2 ff_law_draw)) (z_len : mg "len" = none) : DefOk P w K mg base 2 yy ["_law_pot_here", "_law_items"] (fdN 2 ff_law_any) := by
  exact DefOk.fnA Fn m (Fn.binds fun _ _ _ _ _ _ us hl => match us, hl with | [_, _], _ => rfl) sc_law_any rfl rfl (fun cdv A outer s H E hr => by
    have hu := hr.units
    have nd := sc_law_any.nd
    exact (db_one (ds_ret false (de_ix hu (de_var (pv 1)) (de_callN c__law_draw (hr.mono (by decide)) (da_cons (de_var (pv 0)) (da_cons (de_callB call_lenA sc_len z_len (da_cons (de_var (pv 1)) da_nil)) da_nil))))))) sm_law_any
abbrev s_is_integer : Stmt := topS 7
theorem sc_is_integer : FnScope ["thing"] ["thing"] (defScope s_is_integer) := ⟨rfl, rfl, rfl, by decide +kernel, rfl, by decide +kernel, by decide +kernel⟩
theorem ok_is_integer {f : Addr} {fd : FuncData} {yy : Str} (Fn : Fun K "is_integer" "is_integer" s_is_integer f fd) (m : mg yy = some (.ref f)) (z_isinstance : mg "isinstance" = none) (z_int : mg "int" = none) (z_bool : mg "bool" = none) : DefOk P w K mg base 1 yy ["thing"] (fdN 1 ff_is_integer) := by
  exact DefOk.fnA Fn m (Fn.binds fun _ _ _ _ _ _ us hl => match us, hl with | [_], _ => rfl) sc_is_integer rfl rfl (fun cdv A outer s H E hr => by
    have hu := hr.units
    have nd := sc_is_integer.nd
    exact (db_one (ds_ret false (de_and (de_callB call_isi sc_isi z_isinstance (da_cons (de_var (pv 0)) (da_cons (de_bltn (v := .ty "int") (u := .type "int") rfl z_int (by decide +kernel) rfl (fun _ _ => .ty _)) da_nil))) (de_one (de_not (de_callB call_isi sc_isi z_isinstance (da_cons (de_var (pv 0)) (da_cons (de_bltn (v := .ty "bool") (u := .type "bool") rfl z_bool (by decide +kernel) rfl (fun _ _ => .ty _)) da_nil))))))))) sm_is_integer
abbrev s_is_within : Stmt := topS 8
theorem sc_is_within : FnScope ["thing", "least", "most"] ["thing", "least", "most"] (defScope s_is_within) := ⟨rfl, rfl, rfl, by decide +kernel, rfl, by decide +kernel, by decide +kernel⟩
theorem ok_is_within {f : Addr} {fd : FuncData} {yy : Str} (Fn : Fun K "is_within" "is_within" s_is_within f fd) (m : mg yy = some (.ref f)) (c_is_integer : DefOk P w K mg base 1 "is_integer" ["thing"] (fdN 1 ff_is_integer)) : DefOk P w K mg base 2 yy ["thing", "least", "most"] (fdN 3 ff_is_within) := by
  exact DefOk.fnA Fn m (Fn.binds fun _ _ _ _ _ _ us hl => match us, hl with | [_, _, _], _ => rfl) sc_is_within rfl rfl (fun cdv A outer s H E hr => by
    have hu := hr.units
    have nd := sc_is_within.nd
    exact (db_one (ds_ret false (de_and (de_callN c_is_integer (hr.mono (by decide)) (da_cons (de_var (pv 0)) da_nil)) (de_one (de_chain op_leA sv_ord op_leA sv_ord (de_var (pv 1)) (de_var (pv 0)) (de_var (pv 2)))))))) sm_is_within
abbrev s_check_place : Stmt := topS 27
theorem sc_check_place : FnScope ["program", "thing"] ["program", "thing"] (defScope s_check_place) := ⟨rfl, rfl, rfl, by decide +kernel, rfl, by decide +kernel, by decide +kernel⟩
theorem ok_check_place {f : Addr} {fd : FuncData} {yy : Str} {c : Cs} (Fn : Fun K "check_place" "check_place" s_check_place f fd) (m : mg yy = some (.ref f)) (c_is_within : DefOk P w K mg base 2 "is_within" ["thing", "least", "most"] (fdN 3 ff_is_within)) (z_len : mg "len" = none) (hF_words : ∀ C, c.P C → Cls K C ∧ NoAttr K C "words") : DefOk P w K mg base 3 yy ["program", "thing"] (fdN 2 (ff_check_place c)) := by
  exact DefOk.fnA Fn m (Fn.binds fun _ _ _ _ _ _ us hl => match us, hl with | [_, _], _ => rfl) sc_check_place rfl rfl (fun cdv A outer s H E hr => by
    have hu := hr.units
    have nd := sc_check_place.nd
    exact (db_one (ds_if (dt_not (dt_tru (de_callN c_is_within (hr.mono (by decide)) (da_cons (de_var (pv 1)) (da_cons de_int (da_cons (de_op op_sub sv_sub (de_callB call_lenA sc_len z_len (da_cons (de_fld hF_words (de_var (pv 0))) da_nil)) de_int) da_nil)))))) (db_one ds_never) db_nil))) sm_check_place
abbrev s_asked_by : Stmt := topS 16
theorem sc_asked_by : FnScope ["word"] ["word"] (defScope s_asked_by) := ⟨rfl, rfl, rfl, by decide +kernel, rfl, by decide +kernel, by decide +kernel⟩
theorem ok_asked_by {f : Addr} {fd : FuncData} {yy : Str} (Fn : Fun K "asked_by" "asked_by" s_asked_by f fd) (m : mg yy = some (.ref f)) (c_is_give : DefOk P w K mg base 1 "is_give" ["word"] (fdN 1 ff_is_give)) (c_is_take : DefOk P w K mg base 1 "is_take" ["word"] (fdN 1 ff_is_take)) : DefOk P w K mg base 2 yy ["word"] (fdN 1 ff_asked_by) := by
  exact DefOk.fnA Fn m (Fn.binds fun _ _ _ _ _ _ us hl => match us, hl with | [_], _ => rfl) sc_asked_by rfl rfl (fun cdv A outer s H E hr => by
    have hu := hr.units
    have nd := sc_asked_by.nd
    exact (db_cons (ds_if (dt_tru (de_callN c_is_give (hr.mono (by decide)) (da_cons (de_var (pv 0)) da_nil))) (db_one (ds_ret false de_int)) db_nil)
      (db_one (ds_ret false (de_if (dt_tru (de_callN c_is_take (hr.mono (by decide)) (da_cons (de_var (pv 0)) da_nil))) de_int de_int))))) sm_asked_by
abbrev s_raw_ends : Stmt := topS 19
theorem sc_raw_ends : FnScope ["words", "found", "whole", "place", "end", "turn"] ["words"] (defScope s_raw_ends) := ⟨rfl, rfl, rfl, by decide +kernel, rfl, by decide +kernel, by decide +kernel⟩
theorem ok_raw_ends {f : Addr} {fd : FuncData} {yy : Str} (Fn : Fun K "raw_ends" "raw_ends" s_raw_ends f fd) (m : mg yy = some (.ref f)) (c_asked_by : DefOk P w K mg base 2 "asked_by" ["word"] (fdN 1 ff_asked_by)) (z_len : mg "len" = none) (z_range : mg "range" = none) (z_tuple : mg "tuple" = none) : DefOk P w K mg base 3 yy ["words"] (fdN 1 ff_raw_ends) := by
  exact DefOk.fnA Fn m (Fn.binds fun _ _ _ _ _ _ us hl => match us, hl with | [_], _ => rfl) sc_raw_ends rfl rfl (fun cdv A outer s H E hr => by
    have hu := hr.units
    have nd := sc_raw_ends.nd
    exact (db_cons (ds_set (i := 1) nd (de_op op_mulA (sv_mul (o := true)) (de_lst false (da_cons de_int da_nil)) (de_callB call_lenA sc_len z_len (da_cons (de_var (pv 0)) da_nil))))
      (db_cons (ds_set (i := 2) nd (de_lst true da_nil))
      (db_cons (ds_for PassesOwn.never rfl (di_range3 z_range (da_cons (de_op op_sub sv_sub (de_callB call_lenA sc_len z_len (da_cons (de_var (pv 0)) da_nil)) de_int) (da_cons (de_un un_neg sv_neg de_int) (da_cons (de_un un_neg sv_neg de_int) da_nil)))) (dg_name (i := 3) nd) (db_cons (ds_set (i := 4) nd (de_op op_addA (sv_add (o := false)) (de_var (pv 3)) de_int))
      (db_cons (ds_for PassesOwn.never rfl (di_range1 z_range (da_cons (de_callN c_asked_by (hr.mono (by decide)) (da_cons (de_ix hu (de_var (pv 0)) (de_var (pv 3))) da_nil)) da_nil)) (dg_name (i := 5) nd) (db_one (ds_set (i := 4) nd (de_mth0 PySem.F.slot_list_pop PySem.F.type_list_pop mt_pop sm_pop (de_var (pv 2))))))
      (db_cons (ds_setIx hu (de_var (pv 4)) (de_var (pv 1)) (de_var (pv 3)))
      (db_one (ds_expr (de_app (de_var (pv 2)) (de_var (pv 4)))))))))
      (db_one (ds_ret false (de_callTy call_tuple_of sc_tuple z_tuple (da_cons (de_var (pv 1)) da_nil)))))))) sm_raw_ends
abbrev s_part : Stmt := topS 28
theorem sc_part : FnScope ["program", "place"] ["program", "place"] (defScope s_part) := ⟨rfl, rfl, rfl, by decide +kernel, rfl, by decide +kernel, by decide +kernel⟩
theorem ok_part {f : Addr} {fd : FuncData} {yy : Str} {c : Cs} (Fn : Fun K "part" "part" s_part f fd) (m : mg yy = some (.ref f)) (c_check_place : DefOk P w K mg base 3 "check_place" ["program", "thing"] (fdN 2 (ff_check_place c))) (c_raw_ends : DefOk P w K mg base 3 "raw_ends" ["words"] (fdN 1 ff_raw_ends)) (k_RawProgram : MkOk P w K mg base 1 "RawProgram" c.RawProgram ["self", "words"] (fdN 2 (ff_RawProgram_init c))) (hF_words : ∀ C, c.P C → Cls K C ∧ NoAttr K C "words") : DefOk P w K mg base 4 yy ["program", "place"] (fdN 2 (ff_part c)) := by
  exact DefOk.fnA Fn m (Fn.binds fun _ _ _ _ _ _ us hl => match us, hl with | [_, _], _ => rfl) sc_part rfl rfl (fun cdv A outer s H E hr => by
    have hu := hr.units
    have nd := sc_part.nd
    exact (db_cons (ds_expr (de_callN c_check_place (hr.mono (by decide)) (da_cons (de_var (pv 0)) (da_cons (de_var (pv 1)) da_nil))))
      (db_one (ds_ret false (de_make k_RawProgram (hr.mono (by decide)) [] false (da_cons (de_sl (o := false) (de_fld hF_words (de_var (pv 0))) (do_some (de_var (pv 1))) (do_some (de_ix hu (de_callN c_raw_ends (hr.mono (by decide)) (da_cons (de_fld hF_words (de_var (pv 0))) da_nil)) (de_var (pv 1))))) da_nil)))))) sm_part
abbrev s_is_name : Stmt := topS 9
theorem sc_is_name : FnScope ["thing", "sign"] ["thing"] (defScope s_is_name) := ⟨rfl, rfl, rfl, by decide +kernel, rfl, by decide +kernel, by decide +kernel⟩
theorem ok_is_name {f : Addr} {fd : FuncData} {yy : Str} (Fn : Fun K "is_name" "is_name" s_is_name f fd) (m : mg yy = some (.ref f)) (z_isinstance : mg "isinstance" = none) (z_str : mg "str" = none) (z_len : mg "len" = none) (z_all : mg "all" = none) : DefOk P w K mg base 1 yy ["thing"] (fdN 1 ff_is_name) := by
  exact DefOk.fnA Fn m (Fn.binds fun _ _ _ _ _ _ us hl => match us, hl with | [_], _ => rfl) sc_is_name rfl rfl (fun cdv A outer s H E hr => by
    have hu := hr.units
    have nd := sc_is_name.nd
    exact (db_one (ds_ret false (de_and (de_callB call_isi sc_isi z_isinstance (da_cons (de_var (pv 0)) (da_cons (de_bltn (v := .ty "str") (u := .type "str") rfl z_str (by decide +kernel) rfl (fun _ _ => .ty _)) da_nil))) (de_and (de_chain op_leA sv_ord op_leA sv_ord de_int (de_callB call_lenA sc_len z_len (da_cons (de_var (pv 0)) da_nil)) de_int) (de_one (de_callB (cr_all rfl) sc_all z_all (da_cons (de_lc false (own := [("sign", 1)]) rfl nd (di_seq (de_var (pv 0))) (blkOk_by (N := ["thing", "sign"]) (sc := defScope s_is_name) (by decide +kernel)) (fun _ _ _ _ _ => (dc_name (i := 1) nd (by decide))) (fun _ _ _ _ _ => dp_nil) (fun _ _ _ _ _ => (de_chain op_leA sv_ord op_leA sv_ord de_str (de_var (pv 1)) de_str))) da_nil)))))))) sm_is_name
abbrev s_uses : Stmt := topS 20
theorem sc_uses : FnScope ["words", "place", "word"] ["words"] (defScope s_uses) := ⟨rfl, rfl, rfl, by decide +kernel, rfl, by decide +kernel, by decide +kernel⟩
theorem ok_uses {f : Addr} {fd : FuncData} {yy : Str} (Fn : Fun K "uses" "uses" s_uses f fd) (m : mg yy = some (.ref f)) (c_is_give : DefOk P w K mg base 1 "is_give" ["word"] (fdN 1 ff_is_give)) (c_is_take : DefOk P w K mg base 1 "is_take" ["word"] (fdN 1 ff_is_take)) (z_enumerate : mg "enumerate" = none) : DefOk P w K mg base 2 yy ["words"] (fdN 1 ff_uses) := by
  exact DefOk.fnA Fn m (Fn.binds fun _ _ _ _ _ _ us hl => match us, hl with | [_], _ => rfl) sc_uses rfl rfl (fun cdv A outer s H E hr => by
    have hu := hr.units
    have nd := sc_uses.nd
    exact (db_one (ds_ret false (de_dc false (own := [("place", 1), ("word", 2)]) rfl nd (di_enum z_enumerate (da_cons (de_var (pv 0)) da_nil)) (blkOk_by (N := ["words", "place", "word"]) (sc := defScope s_uses) (by decide +kernel)) (fun _ _ _ _ _ => (dc_tup rfl (dcs_cons (dc_name (i := 1) nd (by decide)) (dcs_cons (dc_name (i := 2) nd (by decide)) dcs_nil)))) (fun _ _ _ _ _ => (dp_one (DWx.dt (dw_and (dt_not (dt_tru (de_callN c_is_give (hr.mono (by decide)) (da_cons (de_var (pv 2)) da_nil)))) (dw_and1 (dt_not (dt_tru (de_callN c_is_take (hr.mono (by decide)) (da_cons (de_var (pv 2)) da_nil))))))))) (fun _ _ _ _ _ => (de_var (pv 2))) (fun _ _ _ _ _ => (de_var (pv 1))))))) sm_uses
abbrev s_apart : Stmt := topS 37
theorem sc_apart : FnScope ["words", "mark", "barred", "found", "word", "name"] ["words", "mark"] (defScope s_apart) := ⟨rfl, rfl, rfl, by decide +kernel, rfl, by decide +kernel, by decide +kernel⟩
theorem ok_apart {f : Addr} {fd : FuncData} {yy : Str} (Fn : Fun K "apart" "apart" s_apart f fd) (m : mg yy = some (.ref f)) (c_raw_open : DefOk P w K mg base 4 "raw_open" ["words"] (fdN 1 ff_raw_open)) (c_is_give : DefOk P w K mg base 1 "is_give" ["word"] (fdN 1 ff_is_give)) (c_name_of : DefOk P w K mg base 2 "name_of" ["word"] (fdN 1 ff_name_of)) (c_is_take : DefOk P w K mg base 1 "is_take" ["word"] (fdN 1 ff_is_take)) (z_tuple : mg "tuple" = none) : DefOk P w K mg base 5 yy ["words", "mark"] (fdN 2 ff_apart) := by
  exact DefOk.fnA Fn m (Fn.binds fun _ _ _ _ _ _ us hl => match us, hl with | [_, _], _ => rfl) sc_apart rfl rfl (fun cdv A outer s H E hr => by
    have hu := hr.units
    have nd := sc_apart.nd
    exact (db_cons (ds_setDc (i := 2) false (own := [("name", 5)]) rfl nd (di_seq (de_callN c_raw_open (hr.mono (by decide)) (da_cons (de_var (pv 0)) da_nil))) (blkOk_by (N := ["words", "mark", "barred", "found", "word", "name"]) (sc := defScope s_apart) (by decide +kernel)) (fun _ _ _ _ _ => (dc_name (i := 5) nd (by decide))) (fun _ _ _ _ _ => dp_nil) (fun _ _ _ _ _ => (de_var (pv 5))) (fun _ _ _ _ _ => de_bl))
      (db_cons (ds_set (i := 3) nd (de_lst true da_nil))
      (db_cons (ds_for PassesOwn.never rfl (di_seq (de_var (pv 0))) (dg_name (i := 4) nd) (db_one (ds_if (DWx.dt (dw_or (dt_tru (de_callN c_is_give (hr.mono (by decide)) (da_cons (de_var (pv 4)) da_nil))) (dw_or1 (dt_cmp (op_inA hu) (sv_in (n := false)) (de_callN c_name_of (hr.mono (by decide)) (da_cons (de_var (pv 4)) da_nil)) (de_var (pv 2)))))) (db_one (ds_expr (de_app (de_var (pv 3)) (de_var (pv 4))))) (db_one (ds_expr (de_app (de_var (pv 3)) (de_if (dt_tru (de_callN c_is_take (hr.mono (by decide)) (da_cons (de_var (pv 4)) da_nil))) (de_op op_addA (sv_add (o := false)) (de_op op_addA (sv_add (o := false)) de_str (de_var (pv 1))) (de_callN c_name_of (hr.mono (by decide)) (da_cons (de_var (pv 4)) da_nil))) (de_op op_addA (sv_add (o := false)) (de_var (pv 1)) (de_var (pv 4))))))))))
      (db_one (ds_ret false (de_callTy call_tuple_of sc_tuple z_tuple (da_cons (de_var (pv 3)) da_nil)))))))) sm_apart
abbrev s_put_in : Stmt := topS 38
theorem sc_put_in : FnScope ["program", "name", "other", "own", "place", "words", "one"] ["program", "name", "other"] (defScope s_put_in) := ⟨rfl, rfl, rfl, by decide +kernel, rfl, by decide +kernel, by decide +kernel⟩
theorem ok_put_in {f : Addr} {fd : FuncData} {yy : Str} {c : Cs} (Fn : Fun K "put_in" "put_in" s_put_in f fd) (m : mg yy = some (.ref f)) (c_raw_open : DefOk P w K mg base 4 "raw_open" ["words"] (fdN 1 ff_raw_open)) (c_is_name : DefOk P w K mg base 1 "is_name" ["thing"] (fdN 1 ff_is_name)) (c_uses : DefOk P w K mg base 2 "uses" ["words"] (fdN 1 ff_uses)) (c_apart : DefOk P w K mg base 5 "apart" ["words", "mark"] (fdN 2 ff_apart)) (c_raw_standard : DefOk P w K mg base 5 "raw_standard" ["words"] (fdN 1 ff_raw_standard)) (z_len : mg "len" = none) (k_RawProgram : MkOk P w K mg base 1 "RawProgram" c.RawProgram ["self", "words"] (fdN 2 (ff_RawProgram_init c))) (hF_words : ∀ C, c.P C → Cls K C ∧ NoAttr K C "words") : DefOk P w K mg base 6 yy ["program", "name", "other"] (fdN 3 (ff_put_in c)) := by
  exact DefOk.fnA Fn m (Fn.binds fun _ _ _ _ _ _ us hl => match us, hl with | [_, _, _], _ => rfl) sc_put_in rfl rfl (fun cdv A outer s H E hr => by
    have hu := hr.units
    have nd := sc_put_in.nd
    exact (db_cons (ds_set (i := 3) nd (de_callN c_raw_open (hr.mono (by decide)) (da_cons (de_fld hF_words (de_var (pv 0))) da_nil)))
      (db_cons (ds_if (DWx.dt (dw_or (dt_not (dt_tru (de_callN c_is_name (hr.mono (by decide)) (da_cons (de_var (pv 1)) da_nil)))) (dw_or1 (dt_cmp (op_notInA hu) (sv_in (n := true)) (de_var (pv 1)) (de_var (pv 3)))))) (db_one ds_never) db_nil)
      (db_cons (ds_if (dt_cmp op_gtA sv_ord (de_callB call_lenA sc_len z_len (da_cons (de_lc false (own := [("one", 6)]) rfl nd (di_seq (de_callN c_raw_open (hr.mono (by decide)) (da_cons (de_fld hF_words (de_var (pv 2))) da_nil))) (blkOk_by (N := ["program", "name", "other", "own", "place", "words", "one"]) (sc := defScope s_put_in) (by decide +kernel)) (fun _ _ _ _ _ => (dc_name (i := 6) nd (by decide))) (fun _ _ _ _ _ => (dp_one (DWx.dt (dw_and (dt_cmp (op_inA hu) (sv_in (n := false)) (de_var (pv 6)) (de_var (pv 3))) (dw_and1 (dt_cmp (op_neA hu) sv_ne (de_var (pv 6)) (de_var (pv 1)))))))) (fun _ _ _ _ _ => (de_var (pv 6)))) da_nil)) de_int) (db_one ds_never) db_nil)
      (db_cons (ds_set (i := 4) nd (de_ix hu (de_callN c_uses (hr.mono (by decide)) (da_cons (de_fld hF_words (de_var (pv 0))) da_nil)) (de_var (pv 1))))
      (db_cons (ds_set (i := 5) nd (de_callN c_apart (hr.mono (by decide)) (da_cons (de_fld hF_words (de_var (pv 0))) (da_cons de_str da_nil))))
      (db_one (ds_ret false (de_make k_RawProgram (hr.mono (by decide)) [] false (da_cons (de_callN c_raw_standard (hr.mono (by decide)) (da_cons (de_op op_addA (sv_add (o := false)) (de_op op_addA (sv_add (o := false)) (de_sl (o := false) (de_var (pv 5)) do_none (do_some (de_var (pv 4)))) (de_callN c_apart (hr.mono (by decide)) (da_cons (de_fld hF_words (de_var (pv 2))) (da_cons de_str da_nil)))) (de_sl (o := false) (de_var (pv 5)) (do_some (de_op op_addA (sv_add (o := false)) (de_var (pv 4)) de_int)) do_none)) da_nil)) da_nil)))))))))) sm_put_in
abbrev s_same : Stmt := topS 36
theorem sc_same : FnScope ["program", "other"] ["program", "other"] (defScope s_same) := ⟨rfl, rfl, rfl, by decide +kernel, rfl, by decide +kernel, by decide +kernel⟩
theorem ok_same {f : Addr} {fd : FuncData} {yy : Str} {c : Cs} (Fn : Fun K "same" "same" s_same f fd) (m : mg yy = some (.ref f)) (c_raw_standard : DefOk P w K mg base 5 "raw_standard" ["words"] (fdN 1 ff_raw_standard)) (hF_words : ∀ C, c.P C → Cls K C ∧ NoAttr K C "words") : DefOk P w K mg base 6 yy ["program", "other"] (fdN 2 (ff_same c)) := by
  exact DefOk.fnA Fn m (Fn.binds fun _ _ _ _ _ _ us hl => match us, hl with | [_, _], _ => rfl) sc_same rfl rfl (fun cdv A outer s H E hr => by
    have hu := hr.units
    have nd := sc_same.nd
    exact (db_one (ds_ret false (de_cmp (op_eqA hu) sv_eq (de_callN c_raw_standard (hr.mono (by decide)) (da_cons (de_fld hF_words (de_var (pv 0))) da_nil)) (de_callN c_raw_standard (hr.mono (by decide)) (da_cons (de_fld hF_words (de_var (pv 1))) da_nil)))))) sm_same
abbrev s_is_word : Stmt := topS 15
theorem sc_is_word : FnScope ["thing"] ["thing"] (defScope s_is_word) := ⟨rfl, rfl, rfl, by decide +kernel, rfl, by decide +kernel, by decide +kernel⟩
theorem ok_is_word {f : Addr} {fd : FuncData} {yy : Str} (Fn : Fun K "is_word" "is_word" s_is_word f fd) (m : mg yy = some (.ref f)) (c_is_name : DefOk P w K mg base 1 "is_name" ["thing"] (fdN 1 ff_is_name)) (z_isinstance : mg "isinstance" = none) (z_str : mg "str" = none) : DefOk P w K mg base 2 yy ["thing"] (fdN 1 ff_is_word) := by
  exact DefOk.fnA Fn m (Fn.binds fun _ _ _ _ _ _ us hl => match us, hl with | [_], _ => rfl) sc_is_word rfl rfl (fun cdv A outer s H E hr => by
    have hu := hr.units
    have nd := sc_is_word.nd
    exact (db_cons (ds_if (dt_not (dt_tru (de_callB call_isi sc_isi z_isinstance (da_cons (de_var (pv 0)) (da_cons (de_bltn (v := .ty "str") (u := .type "str") rfl z_str (by decide +kernel) rfl (fun _ _ => .ty _)) da_nil))))) (db_one (ds_ret false de_bl)) db_nil)
      (db_one (ds_ret false (de_or (de_cmp (op_eqA hu) sv_eq (de_var (pv 0)) de_str) (de_or (de_callN c_is_name (hr.mono (by decide)) (da_cons (de_var (pv 0)) da_nil)) (de_one (de_and (de_cmp (op_eqA hu) sv_eq (de_sl (o := false) (de_var (pv 0)) do_none (do_some de_int)) de_str) (de_one (de_callN c_is_name (hr.mono (by decide)) (da_cons (de_sl (o := false) (de_var (pv 0)) (do_some de_int) do_none) da_nil))))))))))) sm_is_word
abbrev s_wrong_end : Stmt := topS 17
theorem sc_wrong_end : FnScope ["words", "asked", "place", "word"] ["words"] (defScope s_wrong_end) := ⟨rfl, rfl, rfl, by decide +kernel, rfl, by decide +kernel, by decide +kernel⟩
theorem ok_wrong_end {f : Addr} {fd : FuncData} {yy : Str} (Fn : Fun K "wrong_end" "wrong_end" s_wrong_end f fd) (m : mg yy = some (.ref f)) (c_asked_by : DefOk P w K mg base 2 "asked_by" ["word"] (fdN 1 ff_asked_by)) (z_enumerate : mg "enumerate" = none) (z_len : mg "len" = none) : DefOk P w K mg base 3 yy ["words"] (fdN 1 ff_wrong_end) := by
  exact DefOk.fnA Fn m (Fn.binds fun _ _ _ _ _ _ us hl => match us, hl with | [_], _ => rfl) sc_wrong_end rfl rfl (fun cdv A outer s H E hr => by
    have hu := hr.units
    have nd := sc_wrong_end.nd
    exact (db_cons (ds_set (i := 1) nd de_int)
      (db_cons (ds_for PassesOwn.never rfl (di_enum z_enumerate (da_cons (de_var (pv 0)) da_nil)) (dg_tup rfl (dgs_cons (dg_name (i := 2) nd) (dgs_cons (dg_name (i := 3) nd) dgs_nil))) (db_cons (ds_if (dt_cmp (op_eqA hu) sv_eq (de_var (pv 1)) de_int) (db_one (ds_ret false (de_var (pv 2)))) db_nil)
      (db_one (ds_aug (i := 1) nd op_iaddA sv_iadd (de_op op_sub sv_sub (de_callN c_asked_by (hr.mono (by decide)) (da_cons (de_var (pv 3)) da_nil)) de_int)))))
      (db_one (ds_ret false (de_if (dt_cmp op_gtA sv_ord (de_var (pv 1)) de_int) (de_callB call_lenA sc_len z_len (da_cons (de_var (pv 0)) da_nil)) de_non)))))) sm_wrong_end
abbrev s_wrong_second : Stmt := topS 18
theorem sc_wrong_second : FnScope ["words", "met", "place", "word"] ["words"] (defScope s_wrong_second) := ⟨rfl, rfl, rfl, by decide +kernel, rfl, by decide +kernel, by decide +kernel⟩
theorem ok_wrong_second {f : Addr} {fd : FuncData} {yy : Str} (Fn : Fun K "wrong_second" "wrong_second" s_wrong_second f fd) (m : mg yy = some (.ref f)) (c_is_give : DefOk P w K mg base 1 "is_give" ["word"] (fdN 1 ff_is_give)) (z_enumerate : mg "enumerate" = none) : DefOk P w K mg base 2 yy ["words"] (fdN 1 ff_wrong_second) := by
  exact DefOk.fnA Fn m (Fn.binds fun _ _ _ _ _ _ us hl => match us, hl with | [_], _ => rfl) sc_wrong_second rfl rfl (fun cdv A outer s H E hr => by
    have hu := hr.units
    have nd := sc_wrong_second.nd
    exact (db_cons (ds_set (i := 1) nd (de_dic0 true))
      (db_cons (ds_for PassesOwn.never rfl (di_enum z_enumerate (da_cons (de_var (pv 0)) da_nil)) (dg_tup rfl (dgs_cons (dg_name (i := 2) nd) (dgs_cons (dg_name (i := 3) nd) dgs_nil))) (db_one (ds_if (dt_not (dt_tru (de_callN c_is_give (hr.mono (by decide)) (da_cons (de_var (pv 3)) da_nil)))) (db_cons (ds_if (dt_cmp (op_inA hu) (sv_in (n := false)) (de_var (pv 3)) (de_var (pv 1))) (db_one (ds_ret false (de_var (pv 2)))) db_nil)
      (db_one (ds_setIx hu de_bl (de_var (pv 1)) (de_var (pv 3))))) db_nil)))
      (db_one (ds_ret false de_non))))) sm_wrong_second
abbrev s_wrong_take : Stmt := topS 22
theorem sc_wrong_take : FnScope ["words", "ends", "there", "place", "word"] ["words"] (defScope s_wrong_take) := ⟨rfl, rfl, rfl, by decide +kernel, rfl, by decide +kernel, by decide +kernel⟩
theorem ok_wrong_take {f : Addr} {fd : FuncData} {yy : Str} (Fn : Fun K "wrong_take" "wrong_take" s_wrong_take f fd) (m : mg yy = some (.ref f)) (c_raw_ends : DefOk P w K mg base 3 "raw_ends" ["words"] (fdN 1 ff_raw_ends)) (c_uses : DefOk P w K mg base 2 "uses" ["words"] (fdN 1 ff_uses)) (c_is_take : DefOk P w K mg base 1 "is_take" ["word"] (fdN 1 ff_is_take)) (c_name_of : DefOk P w K mg base 2 "name_of" ["word"] (fdN 1 ff_name_of)) (z_enumerate : mg "enumerate" = none) : DefOk P w K mg base 4 yy ["words"] (fdN 1 ff_wrong_take) := by
  exact DefOk.fnA Fn m (Fn.binds fun _ _ _ _ _ _ us hl => match us, hl with | [_], _ => rfl) sc_wrong_take rfl rfl (fun cdv A outer s H E hr => by
    have hu := hr.units
    have nd := sc_wrong_take.nd
    exact (db_cons (ds_set (i := 1) nd (de_callN c_raw_ends (hr.mono (by decide)) (da_cons (de_var (pv 0)) da_nil)))
      (db_cons (ds_set (i := 2) nd (de_callN c_uses (hr.mono (by decide)) (da_cons (de_var (pv 0)) da_nil)))
      (db_cons (ds_for PassesOwn.never rfl (di_enum z_enumerate (da_cons (de_var (pv 0)) da_nil)) (dg_tup rfl (dgs_cons (dg_name (i := 3) nd) (dgs_cons (dg_name (i := 4) nd) dgs_nil))) (db_one (ds_if (DWx.dt (dw_and (dt_tru (de_callN c_is_take (hr.mono (by decide)) (da_cons (de_var (pv 4)) da_nil))) (dw_and1 (dt_not (dt_chain op_ltA sv_ord op_ltA sv_ord (de_var (pv 3)) (de_get2 hu (de_var (pv 2)) (de_callN c_name_of (hr.mono (by decide)) (da_cons (de_var (pv 4)) da_nil)) (de_un un_neg sv_neg de_int)) (de_ix hu (de_var (pv 1)) (de_var (pv 3)))))))) (db_one (ds_ret false (de_var (pv 3)))) db_nil)))
      (db_one (ds_ret false de_non)))))) sm_wrong_take
abbrev s_fault_in : Stmt := topS 23
theorem sc_fault_in : FnScope ["words", "wrong", "place", "word", "found"] ["words"] (defScope s_fault_in) := ⟨rfl, rfl, rfl, by decide +kernel, rfl, by decide +kernel, by decide +kernel⟩
theorem ok_fault_in {f : Addr} {fd : FuncData} {yy : Str} {c : Cs} (Fn : Fun K "fault_in" "fault_in" s_fault_in f fd) (m : mg yy = some (.ref f)) (c_is_word : DefOk P w K mg base 2 "is_word" ["thing"] (fdN 1 ff_is_word)) (c_wrong_end : DefOk P w K mg base 3 "wrong_end" ["words"] (fdN 1 ff_wrong_end)) (c_wrong_second : DefOk P w K mg base 2 "wrong_second" ["words"] (fdN 1 ff_wrong_second)) (c_wrong_take : DefOk P w K mg base 4 "wrong_take" ["words"] (fdN 1 ff_wrong_take)) (v_wrong_end : mg "wrong_end" = some (.ref c.f_wrong_end)) (v_wrong_second : mg "wrong_second" = some (.ref c.f_wrong_second)) (v_wrong_take : mg "wrong_take" = some (.ref c.f_wrong_take)) (z_enumerate : mg "enumerate" = none) : DefOk P w K mg base 5 yy ["words"] (fdN 1 (ff_fault_in c)) := by
  exact DefOk.fnA Fn m (Fn.binds fun _ _ _ _ _ _ us hl => match us, hl with | [_], _ => rfl) sc_fault_in rfl rfl (fun cdv A outer s H E hr => by
    have hu := hr.units
    have nd := sc_fault_in.nd
    exact (db_cons (ds_for PassesOwn.never rfl (di_enum z_enumerate (da_cons (de_var (pv 0)) da_nil)) (dg_tup rfl (dgs_cons (dg_name (i := 2) nd) (dgs_cons (dg_name (i := 3) nd) dgs_nil))) (db_one (ds_if (dt_not (dt_tru (de_callN c_is_word (hr.mono (by decide)) (da_cons (de_var (pv 3)) da_nil)))) (db_one (ds_ret false (de_var (pv 2)))) db_nil)))
      (db_cons (ds_for PassesOwn.never rfl (di_seq (de_tup (da_cons (de_glob (v := .ref c.f_wrong_end) (d := .ref c.f_wrong_end) rfl v_wrong_end rfl (fun _ _ => .ref _)) (da_cons (de_glob (v := .ref c.f_wrong_second) (d := .ref c.f_wrong_second) rfl v_wrong_second rfl (fun _ _ => .ref _)) (da_cons (de_glob (v := .ref c.f_wrong_take) (d := .ref c.f_wrong_take) rfl v_wrong_take rfl (fun _ _ => .ref _)) da_nil))))) (dg_name (i := 1) nd) (db_cons (ds_set (i := 4) nd (de_callV (S3.held ⟨_, HeldD.of c_wrong_end v_wrong_end, hr.mono (by decide)⟩ ⟨_, HeldD.of c_wrong_second v_wrong_second, hr.mono (by decide)⟩ ⟨_, HeldD.of c_wrong_take v_wrong_take, hr.mono (by decide)⟩) (de_var (pv 1)) (da_cons (de_var (pv 0)) da_nil)))
      (db_one (ds_if (dt_cmp op_notN sv_notN (de_var (pv 4)) de_non) (db_one (ds_ret false (de_var (pv 4)))) db_nil))))
      (db_one (ds_ret false de_non))))) sm_fault_in
abbrev s_Program_init : Stmt := inClass (topS 24) 0
theorem sc_Program_init : FnScope ["self", "words", "fault"] ["self", "words"] (defScope s_Program_init) := ⟨rfl, rfl, rfl, by decide +kernel, rfl, by decide +kernel, by decide +kernel⟩
theorem ok_Program_init {f : Addr} {fd : FuncData} {c : Cs} (Fn : Fun K "__init__" "Program.__init__" s_Program_init f fd) (c_fault_in : DefOk P w K mg base 5 "fault_in" ["words"] (fdN 1 (ff_fault_in c))) (m_MOST_WORDS : ∃ t, mg "MOST_WORDS" = some (.int 1000 t)) (z_isinstance : mg "isinstance" = none) (z_tuple : mg "tuple" = none) (z_len : mg "len" = none) (hF_words : ∀ C, c.P C → Cls K C ∧ NoAttr K C "words") : FnOk P w K mg base CX0 6 f fd ["self", "words"] (spD K (fdN 2 (ff_Program_init c))) := by
  obtain ⟨t_MOST_WORDS, m_MOST_WORDS⟩ := m_MOST_WORDS
  exact fn_fn Fn sc_Program_init rfl rfl (fun cdv A outer s H E hr => by
    have hu := hr.units
    have nd := sc_Program_init.nd
    exact (db_cons (ds_if (DWx.dt (dw_or (dt_not (dt_tru (de_callB call_isi sc_isi z_isinstance (da_cons (de_var (pv 1)) (da_cons (de_bltn (v := .ty "tuple") (u := .type "tuple") rfl z_tuple (by decide +kernel) rfl (fun _ _ => .ty _)) da_nil))))) (dw_or1 (dt_not (dt_chain op_leA sv_ord op_leA sv_ord de_int (de_callB call_lenA sc_len z_len (da_cons (de_var (pv 1)) da_nil)) (de_glob (v := .int 1000) rfl m_MOST_WORDS ⟨_, rfl⟩ (fun _ _ => .int _))))))) (db_one ds_never) db_nil)
      (db_cons (ds_set (i := 2) nd (de_callN c_fault_in (hr.mono (by decide)) (da_cons (de_var (pv 1)) da_nil)))
      (db_cons (ds_if (dt_cmp op_notN sv_notN (de_var (pv 2)) de_non) (db_one ds_never) db_nil)
      (db_one (ds_setF hF_words (de_var (pv 1)) (de_var (pv 0)))))))) sm_Program_init
abbrev s_Program_eq : Stmt := inClass (topS 24) 1
theorem sc_Program_eq : FnScope ["self", "other"] ["self", "other"] (defScope s_Program_eq) := ⟨rfl, rfl, rfl, by decide +kernel, rfl, by decide +kernel, by decide +kernel⟩
theorem ok_Program_eq {f : Addr} {fd : FuncData} {c : Cs} (Fn : Fun K "__eq__" "Program.__eq__" s_Program_eq f fd) (m_Program : mg "Program" = some (.ref c.Program)) (z_isinstance : mg "isinstance" = none) (hF_words : ∀ C, c.P C → Cls K C ∧ NoAttr K C "words") (hI : IsiOk K c.rel) : FnOk P w K mg base CX0 1 f fd ["self", "other"] (spD K (fdN 2 (ff_Program_eq c))) := by
  exact fn_fn Fn sc_Program_eq rfl rfl (fun cdv A outer s H E hr => by
    have hu := hr.units
    have nd := sc_Program_eq.nd
    exact (db_one (ds_ret false (de_and (de_callB call_isi (sc_isiO hI) z_isinstance (da_cons (de_var (pv 1)) (da_cons (de_glob (v := .ref c.Program) (d := .cls c.Program) rfl m_Program rfl (fun _ _ => .cls _)) da_nil))) (de_one (de_cmp (op_eqA hu) sv_eq (de_fld hF_words (de_var (pv 0))) (de_fld hF_words (de_var (pv 1))))))))) sm_Program_eq
abbrev s_law : Stmt := topS 52
theorem sc_law : FnScope ["_law_script", "_law_pot_here", "_law_turn", "_law_words_here", "_law_program_here", "_law_due", "_law_ends_here", "_law_places", "_law_used", "_law_name", "_law_place", "_law_inner", "_law_outer", "_law_back", "_law_second", "_law_other", "_law_middle", "_law_one", "_law_word"] ["_law_script"] (defScope s_law) := ⟨rfl, rfl, rfl, by decide +kernel, rfl, by decide +kernel, by decide +kernel⟩
theorem ok_law {f : Addr} {fd : FuncData} {c : Cs} (Fn : Fun K "law" "law" s_law f fd) (c__law_pot : DefOk P w K mg base 1 "_law_pot" ["_law_script"] (fdN 1 ff_law_pot)) (c__law_program : DefOk P w K mg base 4 "_law_program" ["_law_pot_here", "_law_most", "_law_many"] (fdN 3 ff_law_program)) (c_standard : DefOk P w K mg base 6 "standard" ["program"] (fdN 1 (ff_standard c))) (c__law_ends : DefOk P w K mg base 1 "_law_ends" ["_law_words_here"] (fdN 1 ff_law_ends)) (c__law_free_places : DefOk P w K mg base 2 "_law_free_places" ["_law_words_here"] (fdN 1 ff_law_free_places)) (c__law_any : DefOk P w K mg base 2 "_law_any" ["_law_pot_here", "_law_items"] (fdN 2 ff_law_any)) (c__law_fresh : DefOk P w K mg base 2 "_law_fresh" ["_law_pot_here", "_law_used"] (fdN 2 ff_law_fresh)) (c_part : DefOk P w K mg base 4 "part" ["program", "place"] (fdN 2 (ff_part c))) (c_put_in : DefOk P w K mg base 6 "put_in" ["program", "name", "other"] (fdN 3 (ff_put_in c))) (c_same : DefOk P w K mg base 6 "same" ["program", "other"] (fdN 2 (ff_same c))) (m_Program : mg "Program" = some (.ref c.Program)) (z_len : mg "len" = none) (z_range : mg "range" = none) (z_isinstance : mg "isinstance" = none) (k_Program : MkOk P w K mg base 6 "Program" c.Program ["self", "words"] (fdN 2 (ff_Program_init c))) (hF_words : ∀ C, c.P C → Cls K C ∧ NoAttr K C "words") (hI : IsiOk K c.rel) (e_Program : EqOk P w K mg base 1 c.eqProgram (fdN 2 (ff_Program_eq c))) : FnOk P w K mg base CX0 8 f fd ["_law_script"] (spLaw K) := by
  exact law_fn Fn sc_law rfl rfl (fun cdv A outer s H E hr => by
    have hu := hr.units
    have nd := sc_law.nd
    exact (db_cons (ds_set (i := 1) nd (de_callN c__law_pot (hr.mono (by decide)) (da_cons (de_var (pv 0)) da_nil)))
      (db_cons (ds_for PassesOwn.never rfl (di_range1 z_range (da_cons (de_op op_addA (sv_add (o := false)) de_int (de_op op_fdivW sv_div (de_callB call_lenA sc_len z_len (da_cons (de_sl (o := false) (de_var (pv 0)) do_none (do_some de_int)) da_nil)) de_int)) da_nil)) (dg_name (i := 2) nd) (db_cons (ds_set (i := 3) nd (de_callN c__law_program (hr.mono (by decide)) (da_cons (de_var (pv 1)) (da_cons de_int (da_cons de_int da_nil)))))
      (db_cons (ds_set (i := 4) nd (de_make k_Program (hr.mono (by decide)) [] false (da_cons (de_var (pv 3)) da_nil)))
      (db_cons (ds_set (i := 5) nd (de_callN c_standard (hr.mono (by decide)) (da_cons (de_var (pv 4)) da_nil)))
      (db_cons (ds_set (i := 6) nd (de_callN c__law_ends (hr.mono (by decide)) (da_cons (de_var (pv 3)) da_nil)))
      (db_cons (ds_set (i := 7) nd (de_callN c__law_free_places (hr.mono (by decide)) (da_cons (de_var (pv 3)) da_nil)))
      (db_cons (ds_if (dt_cmp op_gtA sv_ord (de_callB call_lenA sc_len z_len (da_cons (de_var (pv 7)) da_nil)) de_int) (db_one (ds_set (i := 7) nd (de_lc false (own := [("_law_one", 17)]) rfl nd (di_range1 z_range (da_cons de_int da_nil)) (blkOk_by (N := ["_law_script", "_law_pot_here", "_law_turn", "_law_words_here", "_law_program_here", "_law_due", "_law_ends_here", "_law_places", "_law_used", "_law_name", "_law_place", "_law_inner", "_law_outer", "_law_back", "_law_second", "_law_other", "_law_middle", "_law_one", "_law_word"]) (sc := defScope s_law) (by decide +kernel)) (fun _ _ _ _ _ => (dc_name (i := 17) nd (by decide))) (fun _ _ _ _ _ => dp_nil) (fun _ _ _ _ _ => (de_callN c__law_any (hr.mono (by decide)) (da_cons (de_var (pv 1)) (da_cons (de_var (pv 7)) da_nil))))))) db_nil)
      (db_cons (ds_set (i := 8) nd (de_op op_addA (sv_add (o := true)) (de_lc false (own := [("_law_word", 18)]) rfl nd (di_seq (de_var (pv 3))) (blkOk_by (N := ["_law_script", "_law_pot_here", "_law_turn", "_law_words_here", "_law_program_here", "_law_due", "_law_ends_here", "_law_places", "_law_used", "_law_name", "_law_place", "_law_inner", "_law_outer", "_law_back", "_law_second", "_law_other", "_law_middle", "_law_one", "_law_word"]) (sc := defScope s_law) (by decide +kernel)) (fun _ _ _ _ _ => (dc_name (i := 18) nd (by decide))) (fun _ _ _ _ _ => (dp_one (dt_cmp (op_neA hu) sv_ne (de_var (pv 18)) de_str))) (fun _ _ _ _ _ => (de_var (pv 18)))) (de_lc false (own := [("_law_word", 18)]) rfl nd (di_seq (de_var (pv 3))) (blkOk_by (N := ["_law_script", "_law_pot_here", "_law_turn", "_law_words_here", "_law_program_here", "_law_due", "_law_ends_here", "_law_places", "_law_used", "_law_name", "_law_place", "_law_inner", "_law_outer", "_law_back", "_law_second", "_law_other", "_law_middle", "_law_one", "_law_word"]) (sc := defScope s_law) (by decide +kernel)) (fun _ _ _ _ _ => (dc_name (i := 18) nd (by decide))) (fun _ _ _ _ _ => (dp_one (dt_cmp (op_eqA hu) sv_eq (de_sl (o := false) (de_var (pv 18)) do_none (do_some de_int)) de_str))) (fun _ _ _ _ _ => (de_sl (o := false) (de_var (pv 18)) (do_some de_int) do_none)))))
      (db_cons (ds_set (i := 9) nd (de_callN c__law_fresh (hr.mono (by decide)) (da_cons (de_var (pv 1)) (da_cons (de_var (pv 8)) da_nil))))
      (db_one (ds_for PassesOwn.never rfl (di_seq (de_var (pv 7))) (dg_name (i := 10) nd) (db_cons (ds_set (i := 11) nd (de_callN c_part (hr.mono (by decide)) (da_cons (de_var (pv 4)) (da_cons (de_var (pv 10)) da_nil))))
      (db_cons (ds_set (i := 12) nd (de_make k_Program (hr.mono (by decide)) [] false (da_cons (de_op op_addA (sv_add (o := false)) (de_op op_addA (sv_add (o := false)) (de_sl (o := false) (de_var (pv 3)) do_none (do_some (de_var (pv 10)))) (de_tup (da_cons (de_var (pv 9)) da_nil))) (de_sl (o := false) (de_var (pv 3)) (do_some (de_ix hu (de_var (pv 6)) (de_var (pv 10)))) do_none)) da_nil)))
      (db_cons (ds_set (i := 13) nd (de_callN c_put_in (hr.mono (by decide)) (da_cons (de_var (pv 12)) (da_cons (de_var (pv 9)) (da_cons (de_var (pv 11)) da_nil)))))
      (db_cons (ds_if (DWx.dt (dw_or (dt_not (dt_tru (de_callB call_isi (sc_isiO hI) z_isinstance (da_cons (de_var (pv 13)) (da_cons (de_glob (v := .ref c.Program) (d := .cls c.Program) rfl m_Program rfl (fun _ _ => .cls _)) da_nil))))) (dw_or (dt_neO e_Program (hr.mono (by decide)) (de_var (pv 13)) (de_var (pv 5))) (dw_or1 (dt_cmp op_notBl (sv_isB (n := true)) (de_callN c_same (hr.mono (by decide)) (da_cons (de_var (pv 13)) (da_cons (de_var (pv 4)) da_nil))) de_bl))))) (db_one (ds_ret false de_bl)) db_nil)
      (db_cons (ds_set (i := 14) nd (de_callN c__law_any (hr.mono (by decide)) (da_cons (de_var (pv 1)) (da_cons (de_callN c__law_free_places (hr.mono (by decide)) (da_cons (de_fld hF_words (de_var (pv 11))) da_nil)) da_nil))))
      (db_cons (ds_set (i := 15) nd (de_callN c__law_fresh (hr.mono (by decide)) (da_cons (de_var (pv 1)) (da_cons (de_var (pv 8)) da_nil))))
      (db_cons (ds_set (i := 16) nd (de_op op_addA (sv_add (o := false)) (de_op op_addA (sv_add (o := false)) (de_sl (o := false) (de_fld hF_words (de_var (pv 11))) do_none (do_some (de_var (pv 14)))) (de_tup (da_cons (de_var (pv 15)) da_nil))) (de_sl (o := false) (de_fld hF_words (de_var (pv 11))) (do_some (de_ix hu (de_callN c__law_ends (hr.mono (by decide)) (da_cons (de_fld hF_words (de_var (pv 11))) da_nil)) (de_var (pv 14)))) do_none)))
      (db_cons (ds_set (i := 13) nd (de_callN c_put_in (hr.mono (by decide)) (da_cons (de_callN c_put_in (hr.mono (by decide)) (da_cons (de_var (pv 12)) (da_cons (de_var (pv 9)) (da_cons (de_make k_Program (hr.mono (by decide)) [] false (da_cons (de_var (pv 16)) da_nil)) da_nil)))) (da_cons (de_var (pv 15)) (da_cons (de_callN c_part (hr.mono (by decide)) (da_cons (de_var (pv 11)) (da_cons (de_var (pv 14)) da_nil))) da_nil)))))
      (db_one (ds_if (dt_neO e_Program (hr.mono (by decide)) (de_var (pv 13)) (de_var (pv 5))) (db_one (ds_ret false de_bl)) db_nil)))))))))))))))))))))
      (db_one (ds_ret false de_bl))))) sm_law (law_holds c)
end
theorem all_mk {l : PySem.W.OpenLaw} {w : World} {K : PySem.W.Frag} {h : Heap} {mg : Str → Option Value} {fa : Addr} (X : K.In h) (G : h.Ns mainGlobals mg) (hfa : mg "law" = some (.ref fa))
    {f0 f1 f2 f3 f4 f5 f6 f7 f8 f9 f10 f11 f12 f13 f14 f15 f16 f17 f18 f19 f20 f21 f22 f23 f24 f25 f26 f27 f28 f29 f30 f31 f32 f33 f34 f35 f36 f37 f38 f39 f40 f41 : Addr} {od0 an0 od1 an1 od2 an2 od3 an3 od4 an4 od5 an5 od6 an6 od7 an7 od8 an8 od9 an9 od10 an10 od11 an11 od12 an12 od13 an13 od14 an14 od15 an15 od16 an16 od17 an17 od18 an18 od19 an19 od20 an20 od21 an21 od22 an22 od23 an23 od24 an24 od25 an25 od26 an26 od27 an27 od28 an28 od29 an29 od30 an30 od31 an31 od32 an32 od33 an33 od34 an34 od35 an35 od36 an36 od37 an37 od38 an38 od39 an39 od40 an40 od41 an41 : Option Addr} {sl0 sl1 sl2 sl3 sl4 sl5 sl6 sl7 sl8 sl9 sl10 sl11 sl12 sl13 sl14 sl15 sl16 sl17 sl18 sl19 sl20 sl21 sl22 sl23 sl24 sl25 sl26 sl27 sl28 sl29 sl30 sl31 sl32 sl33 sl34 sl35 sl36 sl37 sl38 sl39 sl40 sl41 : Array (Option Value)} {oc0 kV0 dc0 pm0 cd0 ct0 oc1 kV1 dc1 pm1 cd1 ct1 oc2 kV2 dc2 pm2 cd2 ct2 oc3 kV3 dc3 pm3 cd3 ct3 oc4 kV4 dc4 pm4 cd4 ct4 oc5 kV5 dc5 pm5 cd5 ct5 oc6 kV6 dc6 pm6 cd6 ct6 oc7 kV7 dc7 pm7 cd7 ct7 oc8 kV8 dc8 pm8 cd8 ct8 oc9 kV9 dc9 pm9 cd9 ct9 oc10 kV10 dc10 pm10 cd10 ct10 oc11 kV11 dc11 pm11 cd11 ct11 oc12 kV12 dc12 pm12 cd12 ct12 oc13 kV13 dc13 pm13 cd13 ct13 oc14 kV14 dc14 pm14 cd14 ct14 oc15 kV15 dc15 pm15 cd15 ct15 oc16 kV16 dc16 pm16 cd16 ct16 oc17 kV17 dc17 pm17 cd17 ct17 oc18 kV18 dc18 pm18 cd18 ct18 oc19 kV19 dc19 pm19 cd19 ct19 oc20 kV20 dc20 pm20 cd20 ct20 oc21 kV21 dc21 pm21 cd21 ct21 oc22 kV22 dc22 pm22 cd22 ct22 oc23 kV23 dc23 pm23 cd23 ct23 oc24 kV24 dc24 pm24 cd24 ct24 oc25 kV25 dc25 pm25 cd25 ct25 oc26 kV26 dc26 pm26 cd26 ct26 oc27 kV27 dc27 pm27 cd27 ct27 oc28 kV28 dc28 pm28 cd28 ct28 oc29 kV29 dc29 pm29 cd29 ct29 oc30 kV30 dc30 pm30 cd30 ct30 oc31 kV31 dc31 pm31 cd31 ct31 oc32 kV32 dc32 pm32 cd32 ct32 oc33 kV33 dc33 pm33 cd33 ct33 oc34 kV34 dc34 pm34 cd34 ct34 oc35 kV35 dc35 pm35 cd35 ct35 oc36 kV36 dc36 pm36 cd36 ct36 oc37 kV37 dc37 pm37 cd37 ct37 oc38 kV38 dc38 pm38 cd38 ct38 oc39 kV39 dc39 pm39 cd39 ct39 oc40 kV40 dc40 pm40 cd40 ct40 oc41 kV41 dc41 pm41 cd41 ct41 : Value}
    {C_Program_ C_RawProgram_ : Addr}
    {t_LETTERS t_MOST_WORDS : Tok}
    (aC_Program : PySem.W.nsIn K mainGlobals "Program" = some (some (.ref C_Program_)))
    (aC_RawProgram : PySem.W.nsIn K mainGlobals "RawProgram" = some (some (.ref C_RawProgram_)))
    (a0 : PySem.W.nsIn K mainGlobals "_law_pot" = some (some (.ref f0)))
    (l0 : K.lookup f0 = some ⟨oc0, od0, .func (PySem.W.fnOf "_law_pot" "_law_pot" (defArgs s_law_pot) (defBody s_law_pot) (defScope s_law_pot) .none kV0 dc0 pm0 an0 cd0 ct0), sl0⟩)
    (c0 : PySem.W.codeIn K cd0 "_law_pot" = true)
    (k0 : PySem.W.keepIn K (.ref f0) = true)
    (a1 : PySem.W.nsIn K mainGlobals "_law_draw" = some (some (.ref f1)))
    (l1 : K.lookup f1 = some ⟨oc1, od1, .func (PySem.W.fnOf "_law_draw" "_law_draw" (defArgs s_law_draw) (defBody s_law_draw) (defScope s_law_draw) .none kV1 dc1 pm1 an1 cd1 ct1), sl1⟩)
    (c1 : PySem.W.codeIn K cd1 "_law_draw" = true)
    (k1 : PySem.W.keepIn K (.ref f1) = true)
    (a2 : PySem.W.nsIn K mainGlobals "_law_size" = some (some (.ref f2)))
    (l2 : K.lookup f2 = some ⟨oc2, od2, .func (PySem.W.fnOf "_law_size" "_law_size" (defArgs s_law_size) (defBody s_law_size) (defScope s_law_size) .none kV2 dc2 pm2 an2 cd2 ct2), sl2⟩)
    (c2 : PySem.W.codeIn K cd2 "_law_size" = true)
    (k2 : PySem.W.keepIn K (.ref f2) = true)
    (a3 : PySem.W.nsIn K mainGlobals "_law_letters" = some (some (.ref f3)))
    (l3 : K.lookup f3 = some ⟨oc3, od3, .func (PySem.W.fnOf "_law_letters" "_law_letters" (defArgs s_law_letters) (defBody s_law_letters) (defScope s_law_letters) .none kV3 dc3 pm3 an3 cd3 ct3), sl3⟩)
    (c3 : PySem.W.codeIn K cd3 "_law_letters" = true)
    (k3 : PySem.W.keepIn K (.ref f3) = true)
    (a4 : PySem.W.nsIn K mainGlobals "_law_fresh" = some (some (.ref f4)))
    (l4 : K.lookup f4 = some ⟨oc4, od4, .func (PySem.W.fnOf "_law_fresh" "_law_fresh" (defArgs s_law_fresh) (defBody s_law_fresh) (defScope s_law_fresh) .none kV4 dc4 pm4 an4 cd4 ct4), sl4⟩)
    (c4 : PySem.W.codeIn K cd4 "_law_fresh" = true)
    (k4 : PySem.W.keepIn K (.ref f4) = true)
    (a5 : PySem.W.nsIn K mainGlobals "_law_mixed" = some (some (.ref f5)))
    (l5 : K.lookup f5 = some ⟨oc5, od5, .func (PySem.W.fnOf "_law_mixed" "_law_mixed" (defArgs s_law_mixed) (defBody s_law_mixed) (defScope s_law_mixed) .none kV5 dc5 pm5 an5 cd5 ct5), sl5⟩)
    (c5 : PySem.W.codeIn K cd5 "_law_mixed" = true)
    (k5 : PySem.W.keepIn K (.ref f5) = true)
    (a6 : PySem.W.nsIn K mainGlobals "_law_words" = some (some (.ref f6)))
    (l6 : K.lookup f6 = some ⟨oc6, od6, .func (PySem.W.fnOf "_law_words" "_law_words" (defArgs s_law_words) (defBody s_law_words) (defScope s_law_words) .none kV6 dc6 pm6 an6 cd6 ct6), sl6⟩)
    (c6 : PySem.W.codeIn K cd6 "_law_words" = true)
    (k6 : PySem.W.keepIn K (.ref f6) = true)
    (a7 : PySem.W.nsIn K mainGlobals "_law_program" = some (some (.ref f7)))
    (l7 : K.lookup f7 = some ⟨oc7, od7, .func (PySem.W.fnOf "_law_program" "_law_program" (defArgs s_law_program) (defBody s_law_program) (defScope s_law_program) .none kV7 dc7 pm7 an7 cd7 ct7), sl7⟩)
    (c7 : PySem.W.codeIn K cd7 "_law_program" = true)
    (k7 : PySem.W.keepIn K (.ref f7) = true)
    (a8 : PySem.W.nsIn K mainGlobals "is_take" = some (some (.ref f8)))
    (l8 : K.lookup f8 = some ⟨oc8, od8, .func (PySem.W.fnOf "is_take" "is_take" (defArgs s_is_take) (defBody s_is_take) (defScope s_is_take) .none kV8 dc8 pm8 an8 cd8 ct8), sl8⟩)
    (c8 : PySem.W.codeIn K cd8 "is_take" = true)
    (k8 : PySem.W.keepIn K (.ref f8) = true)
    (a9 : PySem.W.nsIn K mainGlobals "name_of" = some (some (.ref f9)))
    (l9 : K.lookup f9 = some ⟨oc9, od9, .func (PySem.W.fnOf "name_of" "name_of" (defArgs s_name_of) (defBody s_name_of) (defScope s_name_of) .none kV9 dc9 pm9 an9 cd9 ct9), sl9⟩)
    (c9 : PySem.W.codeIn K cd9 "name_of" = true)
    (k9 : PySem.W.keepIn K (.ref f9) = true)
    (a10 : PySem.W.nsIn K mainGlobals "taken" = some (some (.ref f10)))
    (l10 : K.lookup f10 = some ⟨oc10, od10, .func (PySem.W.fnOf "taken" "taken" (defArgs s_taken) (defBody s_taken) (defScope s_taken) .none kV10 dc10 pm10 an10 cd10 ct10), sl10⟩)
    (c10 : PySem.W.codeIn K cd10 "taken" = true)
    (k10 : PySem.W.keepIn K (.ref f10) = true)
    (a11 : PySem.W.nsIn K mainGlobals "is_give" = some (some (.ref f11)))
    (l11 : K.lookup f11 = some ⟨oc11, od11, .func (PySem.W.fnOf "is_give" "is_give" (defArgs s_is_give) (defBody s_is_give) (defScope s_is_give) .none kV11 dc11 pm11 an11 cd11 ct11), sl11⟩)
    (c11 : PySem.W.codeIn K cd11 "is_give" = true)
    (k11 : PySem.W.keepIn K (.ref f11) = true)
    (a12 : PySem.W.nsIn K mainGlobals "raw_open" = some (some (.ref f12)))
    (l12 : K.lookup f12 = some ⟨oc12, od12, .func (PySem.W.fnOf "raw_open" "raw_open" (defArgs s_raw_open) (defBody s_raw_open) (defScope s_raw_open) .none kV12 dc12 pm12 an12 cd12 ct12), sl12⟩)
    (c12 : PySem.W.codeIn K cd12 "raw_open" = true)
    (k12 : PySem.W.keepIn K (.ref f12) = true)
    (a13 : PySem.W.nsIn K mainGlobals "letters_name" = some (some (.ref f13)))
    (l13 : K.lookup f13 = some ⟨oc13, od13, .func (PySem.W.fnOf "letters_name" "letters_name" (defArgs s_letters_name) (defBody s_letters_name) (defScope s_letters_name) .none kV13 dc13 pm13 an13 cd13 ct13), sl13⟩)
    (c13 : PySem.W.codeIn K cd13 "letters_name" = true)
    (k13 : PySem.W.keepIn K (.ref f13) = true)
    (a14 : PySem.W.nsIn K mainGlobals "word_renamed" = some (some (.ref f14)))
    (l14 : K.lookup f14 = some ⟨oc14, od14, .func (PySem.W.fnOf "word_renamed" "word_renamed" (defArgs s_word_renamed) (defBody s_word_renamed) (defScope s_word_renamed) .none kV14 dc14 pm14 an14 cd14 ct14), sl14⟩)
    (c14 : PySem.W.codeIn K cd14 "word_renamed" = true)
    (k14 : PySem.W.keepIn K (.ref f14) = true)
    (a15 : PySem.W.nsIn K mainGlobals "words_renamed" = some (some (.ref f15)))
    (l15 : K.lookup f15 = some ⟨oc15, od15, .func (PySem.W.fnOf "words_renamed" "words_renamed" (defArgs s_words_renamed) (defBody s_words_renamed) (defScope s_words_renamed) .none kV15 dc15 pm15 an15 cd15 ct15), sl15⟩)
    (c15 : PySem.W.codeIn K cd15 "words_renamed" = true)
    (k15 : PySem.W.keepIn K (.ref f15) = true)
    (a16 : PySem.W.nsIn K mainGlobals "raw_standard" = some (some (.ref f16)))
    (l16 : K.lookup f16 = some ⟨oc16, od16, .func (PySem.W.fnOf "raw_standard" "raw_standard" (defArgs s_raw_standard) (defBody s_raw_standard) (defScope s_raw_standard) .none kV16 dc16 pm16 an16 cd16 ct16), sl16⟩)
    (c16 : PySem.W.codeIn K cd16 "raw_standard" = true)
    (k16 : PySem.W.keepIn K (.ref f16) = true)
    (a17 : PySem.W.findIn K (.ref C_RawProgram_) "__init__" = some (some (.ref f17)))
    (i17 : PySem.W.isFn K (.ref f17) = true)
    (l17 : K.lookup f17 = some ⟨oc17, od17, .func (PySem.W.fnOf "__init__" "RawProgram.__init__" (defArgs s_RawProgram_init) (defBody s_RawProgram_init) (defScope s_RawProgram_init) .none kV17 dc17 pm17 an17 cd17 ct17), sl17⟩)
    (c17 : PySem.W.codeIn K cd17 "RawProgram.__init__" = true)
    (k17 : PySem.W.keepIn K (.ref f17) = true)
    (a18 : PySem.W.nsIn K mainGlobals "standard" = some (some (.ref f18)))
    (l18 : K.lookup f18 = some ⟨oc18, od18, .func (PySem.W.fnOf "standard" "standard" (defArgs s_standard) (defBody s_standard) (defScope s_standard) .none kV18 dc18 pm18 an18 cd18 ct18), sl18⟩)
    (c18 : PySem.W.codeIn K cd18 "standard" = true)
    (k18 : PySem.W.keepIn K (.ref f18) = true)
    (a19 : PySem.W.nsIn K mainGlobals "_law_ends" = some (some (.ref f19)))
    (l19 : K.lookup f19 = some ⟨oc19, od19, .func (PySem.W.fnOf "_law_ends" "_law_ends" (defArgs s_law_ends) (defBody s_law_ends) (defScope s_law_ends) .none kV19 dc19 pm19 an19 cd19 ct19), sl19⟩)
    (c19 : PySem.W.codeIn K cd19 "_law_ends" = true)
    (k19 : PySem.W.keepIn K (.ref f19) = true)
    (a20 : PySem.W.nsIn K mainGlobals "_law_open" = some (some (.ref f20)))
    (l20 : K.lookup f20 = some ⟨oc20, od20, .func (PySem.W.fnOf "_law_open" "_law_open" (defArgs s_law_open) (defBody s_law_open) (defScope s_law_open) .none kV20 dc20 pm20 an20 cd20 ct20), sl20⟩)
    (c20 : PySem.W.codeIn K cd20 "_law_open" = true)
    (k20 : PySem.W.keepIn K (.ref f20) = true)
    (a21 : PySem.W.nsIn K mainGlobals "_law_free_places" = some (some (.ref f21)))
    (l21 : K.lookup f21 = some ⟨oc21, od21, .func (PySem.W.fnOf "_law_free_places" "_law_free_places" (defArgs s_law_free_places) (defBody s_law_free_places) (defScope s_law_free_places) .none kV21 dc21 pm21 an21 cd21 ct21), sl21⟩)
    (c21 : PySem.W.codeIn K cd21 "_law_free_places" = true)
    (k21 : PySem.W.keepIn K (.ref f21) = true)
    (a22 : PySem.W.nsIn K mainGlobals "_law_any" = some (some (.ref f22)))
    (l22 : K.lookup f22 = some ⟨oc22, od22, .func (PySem.W.fnOf "_law_any" "_law_any" (defArgs s_law_any) (defBody s_law_any) (defScope s_law_any) .none kV22 dc22 pm22 an22 cd22 ct22), sl22⟩)
    (c22 : PySem.W.codeIn K cd22 "_law_any" = true)
    (k22 : PySem.W.keepIn K (.ref f22) = true)
    (a23 : PySem.W.nsIn K mainGlobals "is_integer" = some (some (.ref f23)))
    (l23 : K.lookup f23 = some ⟨oc23, od23, .func (PySem.W.fnOf "is_integer" "is_integer" (defArgs s_is_integer) (defBody s_is_integer) (defScope s_is_integer) .none kV23 dc23 pm23 an23 cd23 ct23), sl23⟩)
    (c23 : PySem.W.codeIn K cd23 "is_integer" = true)
    (k23 : PySem.W.keepIn K (.ref f23) = true)
    (a24 : PySem.W.nsIn K mainGlobals "is_within" = some (some (.ref f24)))
    (l24 : K.lookup f24 = some ⟨oc24, od24, .func (PySem.W.fnOf "is_within" "is_within" (defArgs s_is_within) (defBody s_is_within) (defScope s_is_within) .none kV24 dc24 pm24 an24 cd24 ct24), sl24⟩)
    (c24 : PySem.W.codeIn K cd24 "is_within" = true)
    (k24 : PySem.W.keepIn K (.ref f24) = true)
    (a25 : PySem.W.nsIn K mainGlobals "check_place" = some (some (.ref f25)))
    (l25 : K.lookup f25 = some ⟨oc25, od25, .func (PySem.W.fnOf "check_place" "check_place" (defArgs s_check_place) (defBody s_check_place) (defScope s_check_place) .none kV25 dc25 pm25 an25 cd25 ct25), sl25⟩)
    (c25 : PySem.W.codeIn K cd25 "check_place" = true)
    (k25 : PySem.W.keepIn K (.ref f25) = true)
    (a26 : PySem.W.nsIn K mainGlobals "asked_by" = some (some (.ref f26)))
    (l26 : K.lookup f26 = some ⟨oc26, od26, .func (PySem.W.fnOf "asked_by" "asked_by" (defArgs s_asked_by) (defBody s_asked_by) (defScope s_asked_by) .none kV26 dc26 pm26 an26 cd26 ct26), sl26⟩)
    (c26 : PySem.W.codeIn K cd26 "asked_by" = true)
    (k26 : PySem.W.keepIn K (.ref f26) = true)
    (a27 : PySem.W.nsIn K mainGlobals "raw_ends" = some (some (.ref f27)))
    (l27 : K.lookup f27 = some ⟨oc27, od27, .func (PySem.W.fnOf "raw_ends" "raw_ends" (defArgs s_raw_ends) (defBody s_raw_ends) (defScope s_raw_ends) .none kV27 dc27 pm27 an27 cd27 ct27), sl27⟩)
    (c27 : PySem.W.codeIn K cd27 "raw_ends" = true)
    (k27 : PySem.W.keepIn K (.ref f27) = true)
    (a28 : PySem.W.nsIn K mainGlobals "part" = some (some (.ref f28)))
    (l28 : K.lookup f28 = some ⟨oc28, od28, .func (PySem.W.fnOf "part" "part" (defArgs s_part) (defBody s_part) (defScope s_part) .none kV28 dc28 pm28 an28 cd28 ct28), sl28⟩)
    (c28 : PySem.W.codeIn K cd28 "part" = true)
    (k28 : PySem.W.keepIn K (.ref f28) = true)
    (a29 : PySem.W.nsIn K mainGlobals "is_name" = some (some (.ref f29)))
    (l29 : K.lookup f29 = some ⟨oc29, od29, .func (PySem.W.fnOf "is_name" "is_name" (defArgs s_is_name) (defBody s_is_name) (defScope s_is_name) .none kV29 dc29 pm29 an29 cd29 ct29), sl29⟩)
    (c29 : PySem.W.codeIn K cd29 "is_name" = true)
    (k29 : PySem.W.keepIn K (.ref f29) = true)
    (a30 : PySem.W.nsIn K mainGlobals "uses" = some (some (.ref f30)))
    (l30 : K.lookup f30 = some ⟨oc30, od30, .func (PySem.W.fnOf "uses" "uses" (defArgs s_uses) (defBody s_uses) (defScope s_uses) .none kV30 dc30 pm30 an30 cd30 ct30), sl30⟩)
    (c30 : PySem.W.codeIn K cd30 "uses" = true)
    (k30 : PySem.W.keepIn K (.ref f30) = true)
    (a31 : PySem.W.nsIn K mainGlobals "apart" = some (some (.ref f31)))
    (l31 : K.lookup f31 = some ⟨oc31, od31, .func (PySem.W.fnOf "apart" "apart" (defArgs s_apart) (defBody s_apart) (defScope s_apart) .none kV31 dc31 pm31 an31 cd31 ct31), sl31⟩)
    (c31 : PySem.W.codeIn K cd31 "apart" = true)
    (k31 : PySem.W.keepIn K (.ref f31) = true)
    (a32 : PySem.W.nsIn K mainGlobals "put_in" = some (some (.ref f32)))
    (l32 : K.lookup f32 = some ⟨oc32, od32, .func (PySem.W.fnOf "put_in" "put_in" (defArgs s_put_in) (defBody s_put_in) (defScope s_put_in) .none kV32 dc32 pm32 an32 cd32 ct32), sl32⟩)
    (c32 : PySem.W.codeIn K cd32 "put_in" = true)
    (k32 : PySem.W.keepIn K (.ref f32) = true)
    (a33 : PySem.W.nsIn K mainGlobals "same" = some (some (.ref f33)))
    (l33 : K.lookup f33 = some ⟨oc33, od33, .func (PySem.W.fnOf "same" "same" (defArgs s_same) (defBody s_same) (defScope s_same) .none kV33 dc33 pm33 an33 cd33 ct33), sl33⟩)
    (c33 : PySem.W.codeIn K cd33 "same" = true)
    (k33 : PySem.W.keepIn K (.ref f33) = true)
    (a34 : PySem.W.nsIn K mainGlobals "is_word" = some (some (.ref f34)))
    (l34 : K.lookup f34 = some ⟨oc34, od34, .func (PySem.W.fnOf "is_word" "is_word" (defArgs s_is_word) (defBody s_is_word) (defScope s_is_word) .none kV34 dc34 pm34 an34 cd34 ct34), sl34⟩)
    (c34 : PySem.W.codeIn K cd34 "is_word" = true)
    (k34 : PySem.W.keepIn K (.ref f34) = true)
    (a35 : PySem.W.nsIn K mainGlobals "wrong_end" = some (some (.ref f35)))
    (l35 : K.lookup f35 = some ⟨oc35, od35, .func (PySem.W.fnOf "wrong_end" "wrong_end" (defArgs s_wrong_end) (defBody s_wrong_end) (defScope s_wrong_end) .none kV35 dc35 pm35 an35 cd35 ct35), sl35⟩)
    (c35 : PySem.W.codeIn K cd35 "wrong_end" = true)
    (k35 : PySem.W.keepIn K (.ref f35) = true)
    (a36 : PySem.W.nsIn K mainGlobals "wrong_second" = some (some (.ref f36)))
    (l36 : K.lookup f36 = some ⟨oc36, od36, .func (PySem.W.fnOf "wrong_second" "wrong_second" (defArgs s_wrong_second) (defBody s_wrong_second) (defScope s_wrong_second) .none kV36 dc36 pm36 an36 cd36 ct36), sl36⟩)
    (c36 : PySem.W.codeIn K cd36 "wrong_second" = true)
    (k36 : PySem.W.keepIn K (.ref f36) = true)
    (a37 : PySem.W.nsIn K mainGlobals "wrong_take" = some (some (.ref f37)))
    (l37 : K.lookup f37 = some ⟨oc37, od37, .func (PySem.W.fnOf "wrong_take" "wrong_take" (defArgs s_wrong_take) (defBody s_wrong_take) (defScope s_wrong_take) .none kV37 dc37 pm37 an37 cd37 ct37), sl37⟩)
    (c37 : PySem.W.codeIn K cd37 "wrong_take" = true)
    (k37 : PySem.W.keepIn K (.ref f37) = true)
    (a38 : PySem.W.nsIn K mainGlobals "fault_in" = some (some (.ref f38)))
    (l38 : K.lookup f38 = some ⟨oc38, od38, .func (PySem.W.fnOf "fault_in" "fault_in" (defArgs s_fault_in) (defBody s_fault_in) (defScope s_fault_in) .none kV38 dc38 pm38 an38 cd38 ct38), sl38⟩)
    (c38 : PySem.W.codeIn K cd38 "fault_in" = true)
    (k38 : PySem.W.keepIn K (.ref f38) = true)
    (a39 : PySem.W.findIn K (.ref C_Program_) "__init__" = some (some (.ref f39)))
    (i39 : PySem.W.isFn K (.ref f39) = true)
    (l39 : K.lookup f39 = some ⟨oc39, od39, .func (PySem.W.fnOf "__init__" "Program.__init__" (defArgs s_Program_init) (defBody s_Program_init) (defScope s_Program_init) .none kV39 dc39 pm39 an39 cd39 ct39), sl39⟩)
    (c39 : PySem.W.codeIn K cd39 "Program.__init__" = true)
    (k39 : PySem.W.keepIn K (.ref f39) = true)
    (a40 : PySem.W.findIn K (.ref C_Program_) "__eq__" = some (some (.ref f40)))
    (i40 : PySem.W.isFn K (.ref f40) = true)
    (l40 : K.lookup f40 = some ⟨oc40, od40, .func (PySem.W.fnOf "__eq__" "Program.__eq__" (defArgs s_Program_eq) (defBody s_Program_eq) (defScope s_Program_eq) .none kV40 dc40 pm40 an40 cd40 ct40), sl40⟩)
    (c40 : PySem.W.codeIn K cd40 "Program.__eq__" = true)
    (k40 : PySem.W.keepIn K (.ref f40) = true)
    (a41 : PySem.W.nsIn K mainGlobals "law" = some (some (.ref f41)))
    (l41 : K.lookup f41 = some ⟨oc41, od41, .func (PySem.W.fnOf "law" "law" (defArgs s_law) (defBody s_law) (defScope s_law) .none kV41 dc41 pm41 an41 cd41 ct41), sl41⟩)
    (c41 : PySem.W.codeIn K cd41 "law" = true)
    (k41 : PySem.W.keepIn K (.ref f41) = true)
    (pg_Program : PySem.W.plainGet K C_Program_ Str.empty = true)
    (hd_Program : PySem.W.hasDictIn K C_Program_ = true)
    (po_Program : PySem.W.plainOver K C_Program_ = true)
    (sa_Program : PySem.W.findIn K (.ref C_Program_) "__setattr__" = some (some (.builtin "object.__setattr__")))
    (mk_Program : PySem.W.makesIn K C_Program_ = true)
    (kc_Program : PySem.W.keepIn K (.ref C_Program_) = true)
    (n_Program_words : PySem.W.findIn K (.ref C_Program_) "words" = some none)
    (cc_Program : PySem.W.findIn K (.ref C_Program_) "__class__" = some (some (.builtin "object.__class__")))
    (mo_Program : PySem.W.mroIn K C_Program_ (.type "object") = some true)
    (pg_RawProgram : PySem.W.plainGet K C_RawProgram_ Str.empty = true)
    (hd_RawProgram : PySem.W.hasDictIn K C_RawProgram_ = true)
    (po_RawProgram : PySem.W.plainOver K C_RawProgram_ = true)
    (sa_RawProgram : PySem.W.findIn K (.ref C_RawProgram_) "__setattr__" = some (some (.builtin "object.__setattr__")))
    (mk_RawProgram : PySem.W.makesIn K C_RawProgram_ = true)
    (kc_RawProgram : PySem.W.keepIn K (.ref C_RawProgram_) = true)
    (n_RawProgram_words : PySem.W.findIn K (.ref C_RawProgram_) "words" = some none)
    (cc_RawProgram : PySem.W.findIn K (.ref C_RawProgram_) "__class__" = some (some (.builtin "object.__class__")))
    (mo_RawProgram : PySem.W.mroIn K C_RawProgram_ (.type "object") = some true)
    (nf_RawProgram_RawProgram : PySem.W.notFirst K C_RawProgram_ (.ref C_RawProgram_) = true)
    (aq_RawProgram : PySem.W.findIn K (.ref C_RawProgram_) "__eq__" = some (some (.ref f40)))
    (ne_RawProgram : PySem.W.findIn K (.ref C_RawProgram_) "__ne__" = some (some (.builtin "object.__ne__")))
    (cg : PySem.W.specialIn K (.builtin "object.__class__") "__get__" = some (some (.builtin "getset_descriptor.__get__")))
    (ct : PySem.W.takesIn K (.builtin "object.__class__") = some true)
    (is_Program_Program : PySem.W.kitOne K (.ref C_Program_) (.ref C_Program_) = some true)
    (is_RawProgram_Program : PySem.W.kitOne K (.ref C_RawProgram_) (.ref C_Program_) = some true)
    (is_RawProgram_RawProgram : PySem.W.kitOne K (.ref C_RawProgram_) (.ref C_RawProgram_) = some true)
    (g_LETTERS : PySem.W.nsIn K mainGlobals "LETTERS" = some (some (.str "abcdefghijklmnopqrstuvwxyz" t_LETTERS)))
    (g_MOST_WORDS : PySem.W.nsIn K mainGlobals "MOST_WORDS" = some (some (.int 1000 t_MOST_WORDS)))
    (z_int : PySem.W.nsIn K mainGlobals "int" = some none)
    (z_sum : PySem.W.nsIn K mainGlobals "sum" = some none)
    (z_abs : PySem.W.nsIn K mainGlobals "abs" = some none)
    (z_len : PySem.W.nsIn K mainGlobals "len" = some none)
    (z_range : PySem.W.nsIn K mainGlobals "range" = some none)
    (z_list : PySem.W.nsIn K mainGlobals "list" = some none)
    (z_max : PySem.W.nsIn K mainGlobals "max" = some none)
    (z_min : PySem.W.nsIn K mainGlobals "min" = some none)
    (z_tuple : PySem.W.nsIn K mainGlobals "tuple" = some none)
    (z_enumerate : PySem.W.nsIn K mainGlobals "enumerate" = some none)
    (z_all : PySem.W.nsIn K mainGlobals "all" = some none)
    (z_isinstance : PySem.W.nsIn K mainGlobals "isinstance" = some none)
    (z_bool : PySem.W.nsIn K mainGlobals "bool" = some none)
    (z_str : PySem.W.nsIn K mainGlobals "str" = some none)
    : ∃ fd : FuncData, (∀ (s : Shared) (v : Value), BindsTo s fd ⟨[v], []⟩ [("_law_script", v)]) ∧ ∀ base : Heap, K.In base → base.Ns mainGlobals mg → FnOk l.prog w K mg base CX0 8 fa fd ["_law_script"] (spLaw K) := by
  have e := hfa.symm.trans (PySem.W.mg_of X G a41)
  cases e
  have y_int : mg "int" = none := PySem.W.mg_none_of X G z_int
  have y_sum : mg "sum" = none := PySem.W.mg_none_of X G z_sum
  have y_abs : mg "abs" = none := PySem.W.mg_none_of X G z_abs
  have y_len : mg "len" = none := PySem.W.mg_none_of X G z_len
  have y_range : mg "range" = none := PySem.W.mg_none_of X G z_range
  have y_list : mg "list" = none := PySem.W.mg_none_of X G z_list
  have y_max : mg "max" = none := PySem.W.mg_none_of X G z_max
  have y_min : mg "min" = none := PySem.W.mg_none_of X G z_min
  have y_tuple : mg "tuple" = none := PySem.W.mg_none_of X G z_tuple
  have y_enumerate : mg "enumerate" = none := PySem.W.mg_none_of X G z_enumerate
  have y_all : mg "all" = none := PySem.W.mg_none_of X G z_all
  have y_isinstance : mg "isinstance" = none := PySem.W.mg_none_of X G z_isinstance
  have y_bool : mg "bool" = none := PySem.W.mg_none_of X G z_bool
  have y_str : mg "str" = none := PySem.W.mg_none_of X G z_str
  have h_LETTERS : ∃ t, mg "LETTERS" = some (.str "abcdefghijklmnopqrstuvwxyz" t) := ⟨_, PySem.W.mg_of X G g_LETTERS⟩
  have h_MOST_WORDS : ∃ t, mg "MOST_WORDS" = some (.int 1000 t) := ⟨_, PySem.W.mg_of X G g_MOST_WORDS⟩
  have F0 := fun_mk (st := s_law_pot) l0 c0 k0
  have F1 := fun_mk (st := s_law_draw) l1 c1 k1
  have F2 := fun_mk (st := s_law_size) l2 c2 k2
  have F3 := fun_mk (st := s_law_letters) l3 c3 k3
  have F4 := fun_mk (st := s_law_fresh) l4 c4 k4
  have F5 := fun_mk (st := s_law_mixed) l5 c5 k5
  have F6 := fun_mk (st := s_law_words) l6 c6 k6
  have F7 := fun_mk (st := s_law_program) l7 c7 k7
  have F8 := fun_mk (st := s_is_take) l8 c8 k8
  have F9 := fun_mk (st := s_name_of) l9 c9 k9
  have F10 := fun_mk (st := s_taken) l10 c10 k10
  have F11 := fun_mk (st := s_is_give) l11 c11 k11
  have F12 := fun_mk (st := s_raw_open) l12 c12 k12
  have F13 := fun_mk (st := s_letters_name) l13 c13 k13
  have F14 := fun_mk (st := s_word_renamed) l14 c14 k14
  have F15 := fun_mk (st := s_words_renamed) l15 c15 k15
  have F16 := fun_mk (st := s_raw_standard) l16 c16 k16
  have F17 := fun_mk (st := s_RawProgram_init) l17 c17 k17
  have F18 := fun_mk (st := s_standard) l18 c18 k18
  have F19 := fun_mk (st := s_law_ends) l19 c19 k19
  have F20 := fun_mk (st := s_law_open) l20 c20 k20
  have F21 := fun_mk (st := s_law_free_places) l21 c21 k21
  have F22 := fun_mk (st := s_law_any) l22 c22 k22
  have F23 := fun_mk (st := s_is_integer) l23 c23 k23
  have F24 := fun_mk (st := s_is_within) l24 c24 k24
  have F25 := fun_mk (st := s_check_place) l25 c25 k25
  have F26 := fun_mk (st := s_asked_by) l26 c26 k26
  have F27 := fun_mk (st := s_raw_ends) l27 c27 k27
  have F28 := fun_mk (st := s_part) l28 c28 k28
  have F29 := fun_mk (st := s_is_name) l29 c29 k29
  have F30 := fun_mk (st := s_uses) l30 c30 k30
  have F31 := fun_mk (st := s_apart) l31 c31 k31
  have F32 := fun_mk (st := s_put_in) l32 c32 k32
  have F33 := fun_mk (st := s_same) l33 c33 k33
  have F34 := fun_mk (st := s_is_word) l34 c34 k34
  have F35 := fun_mk (st := s_wrong_end) l35 c35 k35
  have F36 := fun_mk (st := s_wrong_second) l36 c36 k36
  have F37 := fun_mk (st := s_wrong_take) l37 c37 k37
  have F38 := fun_mk (st := s_fault_in) l38 c38 k38
  have F39 := fun_mk (st := s_Program_init) l39 c39 k39
  have F40 := fun_mk (st := s_Program_eq) l40 c40 k40
  have F41 := fun_mk (st := s_law) l41 c41 k41
  let c : Cs := ⟨C_Program_, C_RawProgram_, f35, f36, f37⟩
  have V_wrong_end : mg "wrong_end" = some (.ref c.f_wrong_end) := PySem.W.mg_of X G a35
  have V_wrong_second : mg "wrong_second" = some (.ref c.f_wrong_second) := PySem.W.mg_of X G a36
  have V_wrong_take : mg "wrong_take" = some (.ref c.f_wrong_take) := PySem.W.mg_of X G a37
  have hc_Program : mg "Program" = some (.ref c.Program) := PySem.W.mg_of X G aC_Program
  have cl_Program : Cls K C_Program_ := ⟨pg_Program, hd_Program, po_Program, sa_Program⟩
  have hc_RawProgram : mg "RawProgram" = some (.ref c.RawProgram) := PySem.W.mg_of X G aC_RawProgram
  have cl_RawProgram : Cls K C_RawProgram_ := ⟨pg_RawProgram, hd_RawProgram, po_RawProgram, sa_RawProgram⟩
  have HF_words : ∀ C, c.P C → Cls K C ∧ NoAttr K C "words" := by
    intro C hC
    rcases hC with rfl | rfl
    · exact ⟨cl_Program, n_Program_words⟩
    · exact ⟨cl_RawProgram, n_RawProgram_words⟩
  have HI : IsiOk K c.rel := by
    constructor
    · intro t D b e
      cases t with
      | ref C =>
        unfold Cs.rel at e
        dsimp only at e
        split at e
        · rename_i hh
          cases e
          rcases hh with ⟨rfl, rfl⟩ | ⟨rfl, rfl⟩ | ⟨rfl, rfl⟩
          · exact is_Program_Program
          · exact is_RawProgram_Program
          · exact is_RawProgram_RawProgram
        · cases e
      | _ => cases e
    · intro C D b e
      unfold Cs.rel at e
      dsimp only at e
      split at e
      · rename_i hh
        rcases hh with ⟨rfl, rfl⟩ | ⟨rfl, rfl⟩ | ⟨rfl, rfl⟩
        · exact ⟨cl_Program, cc_Program, cg, ct, mo_Program⟩
        · exact ⟨cl_RawProgram, cc_RawProgram, cg, ct, mo_RawProgram⟩
        · exact ⟨cl_RawProgram, cc_RawProgram, cg, ct, mo_RawProgram⟩
      · cases e
  refine ⟨PySem.W.fnOf "law" "law" (defArgs s_law) (defBody s_law) (defScope s_law) .none kV41 dc41 pm41 an41 cd41 ct41, fun s v => .of_eq rfl, fun base _ _ => ?_⟩
  have C__law_pot := ok_law_pot (P := l.prog) (w := w) (base := base) F0 (PySem.W.mg_of X G a0) y_int y_sum y_abs y_len
  have C__law_draw := ok_law_draw (P := l.prog) (w := w) (base := base) F1 (PySem.W.mg_of X G a1) y_int y_len
  have C__law_size := ok_law_size (P := l.prog) (w := w) (base := base) F2 (PySem.W.mg_of X G a2) C__law_draw y_int
  have C__law_letters := ok_law_letters (P := l.prog) (w := w) (base := base) F3 (PySem.W.mg_of X G a3) y_int y_range
  have C__law_fresh := ok_law_fresh (P := l.prog) (w := w) (base := base) F4 (PySem.W.mg_of X G a4) C__law_draw C__law_letters y_range y_len
  have C__law_mixed := ok_law_mixed (P := l.prog) (w := w) (base := base) F5 (PySem.W.mg_of X G a5) C__law_draw y_list y_len y_range
  have C__law_words := ok_law_words (P := l.prog) (w := w) (base := base) F6 (PySem.W.mg_of X G a6) C__law_draw C__law_fresh C__law_mixed y_list y_len y_max y_min y_range y_tuple
  have C__law_program := ok_law_program (P := l.prog) (w := w) (base := base) F7 (PySem.W.mg_of X G a7) C__law_size C__law_fresh C__law_draw C__law_words y_range y_min y_list
  have C_is_take := ok_is_take (P := l.prog) (w := w) (base := base) F8 (PySem.W.mg_of X G a8) 
  have C_name_of := ok_name_of (P := l.prog) (w := w) (base := base) F9 (PySem.W.mg_of X G a9) C_is_take
  have C_taken := ok_taken (P := l.prog) (w := w) (base := base) F10 (PySem.W.mg_of X G a10) C_is_take C_name_of y_enumerate
  have C_is_give := ok_is_give (P := l.prog) (w := w) (base := base) F11 (PySem.W.mg_of X G a11) 
  have C_raw_open := ok_raw_open (P := l.prog) (w := w) (base := base) F12 (PySem.W.mg_of X G a12) C_taken C_is_give C_is_take y_tuple
  have C_letters_name := ok_letters_name (P := l.prog) (w := w) (base := base) F13 (PySem.W.mg_of X G a13) h_LETTERS
  have C_word_renamed := ok_word_renamed (P := l.prog) (w := w) (base := base) F14 (PySem.W.mg_of X G a14) C_is_give C_is_take C_name_of
  have C_words_renamed := ok_words_renamed (P := l.prog) (w := w) (base := base) F15 (PySem.W.mg_of X G a15) C_word_renamed y_tuple
  have C_raw_standard := ok_raw_standard (P := l.prog) (w := w) (base := base) F16 (PySem.W.mg_of X G a16) C_raw_open C_is_take C_letters_name C_name_of C_words_renamed
  have I_RawProgram_init := ok_RawProgram_init (c := c) (P := l.prog) (w := w) (mg := mg) (base := base) F17 y_tuple HF_words
  have K_RawProgram : MkOk l.prog w K mg base 1 "RawProgram" c.RawProgram ["self", "words"] (fdN 2 (ff_RawProgram_init c)) := ⟨_, _, hc_RawProgram, ⟨mk_RawProgram, a17, i17, kc_RawProgram⟩, (F17.binds (ps := ["self", "words"]) fun _ _ _ _ _ _ us hl => match us, hl with | [_, _], _ => rfl), I_RawProgram_init⟩
  have C_standard := ok_standard (c := c) (P := l.prog) (w := w) (base := base) F18 (PySem.W.mg_of X G a18) C_raw_standard K_RawProgram HF_words
  have C__law_ends := ok_law_ends (P := l.prog) (w := w) (base := base) F19 (PySem.W.mg_of X G a19) y_len y_range y_int y_tuple
  have C__law_open := ok_law_open (P := l.prog) (w := w) (base := base) F20 (PySem.W.mg_of X G a20) 
  have C__law_free_places := ok_law_free_places (P := l.prog) (w := w) (base := base) F21 (PySem.W.mg_of X G a21) C__law_open C__law_ends y_all y_range y_len
  have C__law_any := ok_law_any (P := l.prog) (w := w) (base := base) F22 (PySem.W.mg_of X G a22) C__law_draw y_len
  have C_is_integer := ok_is_integer (P := l.prog) (w := w) (base := base) F23 (PySem.W.mg_of X G a23) y_isinstance y_int y_bool
  have C_is_within := ok_is_within (P := l.prog) (w := w) (base := base) F24 (PySem.W.mg_of X G a24) C_is_integer
  have C_check_place := ok_check_place (c := c) (P := l.prog) (w := w) (base := base) F25 (PySem.W.mg_of X G a25) C_is_within y_len HF_words
  have C_asked_by := ok_asked_by (P := l.prog) (w := w) (base := base) F26 (PySem.W.mg_of X G a26) C_is_give C_is_take
  have C_raw_ends := ok_raw_ends (P := l.prog) (w := w) (base := base) F27 (PySem.W.mg_of X G a27) C_asked_by y_len y_range y_tuple
  have C_part := ok_part (c := c) (P := l.prog) (w := w) (base := base) F28 (PySem.W.mg_of X G a28) C_check_place C_raw_ends K_RawProgram HF_words
  have C_is_name := ok_is_name (P := l.prog) (w := w) (base := base) F29 (PySem.W.mg_of X G a29) y_isinstance y_str y_len y_all
  have C_uses := ok_uses (P := l.prog) (w := w) (base := base) F30 (PySem.W.mg_of X G a30) C_is_give C_is_take y_enumerate
  have C_apart := ok_apart (P := l.prog) (w := w) (base := base) F31 (PySem.W.mg_of X G a31) C_raw_open C_is_give C_name_of C_is_take y_tuple
  have C_put_in := ok_put_in (c := c) (P := l.prog) (w := w) (base := base) F32 (PySem.W.mg_of X G a32) C_raw_open C_is_name C_uses C_apart C_raw_standard y_len K_RawProgram HF_words
  have C_same := ok_same (c := c) (P := l.prog) (w := w) (base := base) F33 (PySem.W.mg_of X G a33) C_raw_standard HF_words
  have C_is_word := ok_is_word (P := l.prog) (w := w) (base := base) F34 (PySem.W.mg_of X G a34) C_is_name y_isinstance y_str
  have C_wrong_end := ok_wrong_end (P := l.prog) (w := w) (base := base) F35 (PySem.W.mg_of X G a35) C_asked_by y_enumerate y_len
  have C_wrong_second := ok_wrong_second (P := l.prog) (w := w) (base := base) F36 (PySem.W.mg_of X G a36) C_is_give y_enumerate
  have C_wrong_take := ok_wrong_take (P := l.prog) (w := w) (base := base) F37 (PySem.W.mg_of X G a37) C_raw_ends C_uses C_is_take C_name_of y_enumerate
  have C_fault_in := ok_fault_in (c := c) (P := l.prog) (w := w) (base := base) F38 (PySem.W.mg_of X G a38) C_is_word C_wrong_end C_wrong_second C_wrong_take V_wrong_end V_wrong_second V_wrong_take y_enumerate
  have I_Program_init := ok_Program_init (c := c) (P := l.prog) (w := w) (mg := mg) (base := base) F39 C_fault_in h_MOST_WORDS y_isinstance y_tuple y_len HF_words
  have K_Program : MkOk l.prog w K mg base 6 "Program" c.Program ["self", "words"] (fdN 2 (ff_Program_init c)) := ⟨_, _, hc_Program, ⟨mk_Program, a39, i39, kc_Program⟩, (F39.binds (ps := ["self", "words"]) fun _ _ _ _ _ _ us hl => match us, hl with | [_, _], _ => rfl), I_Program_init⟩
  have I_Program_eq := ok_Program_eq (c := c) (P := l.prog) (w := w) (mg := mg) (base := base) F40 hc_Program y_isinstance HF_words HI
  have E_Program : EqOk l.prog w K mg base 1 c.eqProgram (fdN 2 (ff_Program_eq c)) := by
    refine ⟨_, _, _, fun C C2 hC => ?_, (F40.binds (ps := ["self", "other"]) fun _ _ _ _ _ _ us hl => match us, hl with | [_, _], _ => rfl), I_Program_eq⟩
    rcases hC with ⟨rfl, rfl⟩
    · exact ⟨⟨aq_RawProgram, i40, ne_RawProgram, mo_RawProgram⟩, nf_RawProgram_RawProgram⟩
  exact ok_law (c := c) F41 C__law_pot C__law_program C_standard C__law_ends C__law_free_places C__law_any C__law_fresh C_part C_put_in C_same hc_Program y_len y_range y_isinstance K_Program HF_words HI E_Program
theorem walk {l : PySem.W.OpenLaw} {q : Program} {loose : List Str} {XP : (Str → Option Value) → Heap → Prop} {YP : World → Heap → Prop} {d : DefRec} {K : Params → PySem.W.Frag} (hn : l.most = some 63) (hdf : d.params.defaults = [])
    (hY : ∀ (w : World) (h : Heap), YP w h → (K w.params).In h)
    (F : ∀ (w : World) (mg : Str → Option Value) (fa : Addr) (h : Heap), (K w.params).In h → h.Ns mainGlobals mg → mg d.name = some (.ref fa) →
      ∃ fd : FuncData, (∀ (s : Shared) (u : Value), BindsTo s fd ⟨[u], []⟩ [("_law_script", u)]) ∧ ∀ base : Heap, (K w.params).In base → base.Ns mainGlobals mg → FnOk l.prog w (K w.params) mg base CX0 8 fa fd ["_law_script"] (spLaw (K w.params))) :
    PySem.W.WalkO q loose XP YP l.row.toRowW d [] (fun f vs => PySem.call f vs) :=
  L2.walk_of (n := 63) (k := 8) (x := "_law_script") (CX := fun _ => CX0) (sp := fun w => spLaw (K w.params)) hn (by decide) hdf ⟨rfl, by decide, by decide⟩ hY F (fun _ _ a ns hl _ hS => ⟨a, ns, rfl, hS, hl, fun _ => rfl⟩) fun _ _ _ _ _ z => z
end Once
open PySem PySem.W PyProof.Rows
set_option maxRecDepth 100000 in
set_option maxHeartbeats 0 in
theorem PySem.Challenge.cw_oncekinds_k09_whole_parts_put_back_holds : PySem.Challenge.rw_oncekinds_k09_whole_parts_put_back.Holds := by
  w_on; o_law; k_head; (case hw => w_witness2)
  k_fill
  refine Once.walk (l := PySem.Challenge.rw_oncekinds_k09_whole_parts_put_back) rfl rfl (fun w h Y => PySem.W.kIn_of Y) ?F
  case F =>
    intro w mg fa h KX G hmg
    refine' Once.all_mk KX G hmg ?aC_Program ?aC_RawProgram ?a0 ?l0 ?c0 ?k0 ?a1 ?l1 ?c1 ?k1 ?a2 ?l2 ?c2 ?k2 ?a3 ?l3 ?c3 ?k3 ?a4 ?l4 ?c4 ?k4 ?a5 ?l5 ?c5 ?k5 ?a6 ?l6 ?c6 ?k6 ?a7 ?l7 ?c7 ?k7 ?a8 ?l8 ?c8 ?k8 ?a9 ?l9 ?c9 ?k9 ?a10 ?l10 ?c10 ?k10 ?a11 ?l11 ?c11 ?k11 ?a12 ?l12 ?c12 ?k12 ?a13 ?l13 ?c13 ?k13 ?a14 ?l14 ?c14 ?k14 ?a15 ?l15 ?c15 ?k15 ?a16 ?l16 ?c16 ?k16 ?a17 ?i17 ?l17 ?c17 ?k17 ?a18 ?l18 ?c18 ?k18 ?a19 ?l19 ?c19 ?k19 ?a20 ?l20 ?c20 ?k20 ?a21 ?l21 ?c21 ?k21 ?a22 ?l22 ?c22 ?k22 ?a23 ?l23 ?c23 ?k23 ?a24 ?l24 ?c24 ?k24 ?a25 ?l25 ?c25 ?k25 ?a26 ?l26 ?c26 ?k26 ?a27 ?l27 ?c27 ?k27 ?a28 ?l28 ?c28 ?k28 ?a29 ?l29 ?c29 ?k29 ?a30 ?l30 ?c30 ?k30 ?a31 ?l31 ?c31 ?k31 ?a32 ?l32 ?c32 ?k32 ?a33 ?l33 ?c33 ?k33 ?a34 ?l34 ?c34 ?k34 ?a35 ?l35 ?c35 ?k35 ?a36 ?l36 ?c36 ?k36 ?a37 ?l37 ?c37 ?k37 ?a38 ?l38 ?c38 ?k38 ?a39 ?i39 ?l39 ?c39 ?k39 ?a40 ?i40 ?l40 ?c40 ?k40 ?a41 ?l41 ?c41 ?k41 ?pg_Program ?hd_Program ?po_Program ?sa_Program ?mk_Program ?kc_Program ?n_Program_words ?cc_Program ?mo_Program ?pg_RawProgram ?hd_RawProgram ?po_RawProgram ?sa_RawProgram ?mk_RawProgram ?kc_RawProgram ?n_RawProgram_words ?cc_RawProgram ?mo_RawProgram ?nf_RawProgram_RawProgram ?aq_RawProgram ?ne_RawProgram ?cg ?ct ?is_Program_Program ?is_RawProgram_Program ?is_RawProgram_RawProgram ?g_LETTERS ?g_MOST_WORDS ?z_int ?z_sum ?z_abs ?z_len ?z_range ?z_list ?z_max ?z_min ?z_tuple ?z_enumerate ?z_all ?z_isinstance ?z_bool ?z_str
    (case aC_Program => k_is)
    (case aC_RawProgram => k_is)
    (case a0 => k_is)
    (case l0 => k_is)
    (case c0 => k_is)
    (case k0 => k_is)
    (case a1 => k_is)
    (case l1 => k_is)
    (case c1 => k_is)
    (case k1 => k_is)
    (case a2 => k_is)
    (case l2 => k_is)
    (case c2 => k_is)
    (case k2 => k_is)
    (case a3 => k_is)
    (case l3 => k_is)
    (case c3 => k_is)
    (case k3 => k_is)
    (case a4 => k_is)
    (case l4 => k_is)
    (case c4 => k_is)
    (case k4 => k_is)
    (case a5 => k_is)
    (case l5 => k_is)
    (case c5 => k_is)
    (case k5 => k_is)
    (case a6 => k_is)
    (case l6 => k_is)
    (case c6 => k_is)
    (case k6 => k_is)
    (case a7 => k_is)
    (case l7 => k_is)
    (case c7 => k_is)
    (case k7 => k_is)
    (case a8 => k_is)
    (case l8 => k_is)
    (case c8 => k_is)
    (case k8 => k_is)
    (case a9 => k_is)
    (case l9 => k_is)
    (case c9 => k_is)
    (case k9 => k_is)
    (case a10 => k_is)
    (case l10 => k_is)
    (case c10 => k_is)
    (case k10 => k_is)
    (case a11 => k_is)
    (case l11 => k_is)
    (case c11 => k_is)
    (case k11 => k_is)
    (case a12 => k_is)
    (case l12 => k_is)
    (case c12 => k_is)
    (case k12 => k_is)
    (case a13 => k_is)
    (case l13 => k_is)
    (case c13 => k_is)
    (case k13 => k_is)
    (case a14 => k_is)
    (case l14 => k_is)
    (case c14 => k_is)
    (case k14 => k_is)
    (case a15 => k_is)
    (case l15 => k_is)
    (case c15 => k_is)
    (case k15 => k_is)
    (case a16 => k_is)
    (case l16 => k_is)
    (case c16 => k_is)
    (case k16 => k_is)
    (case a17 => k_is)
    (case i17 => k_is)
    (case l17 => k_is)
    (case c17 => k_is)
    (case k17 => k_is)
    (case a18 => k_is)
    (case l18 => k_is)
    (case c18 => k_is)
    (case k18 => k_is)
    (case a19 => k_is)
    (case l19 => k_is)
    (case c19 => k_is)
    (case k19 => k_is)
    (case a20 => k_is)
    (case l20 => k_is)
    (case c20 => k_is)
    (case k20 => k_is)
    (case a21 => k_is)
    (case l21 => k_is)
    (case c21 => k_is)
    (case k21 => k_is)
    (case a22 => k_is)
    (case l22 => k_is)
    (case c22 => k_is)
    (case k22 => k_is)
    (case a23 => k_is)
    (case l23 => k_is)
    (case c23 => k_is)
    (case k23 => k_is)
    (case a24 => k_is)
    (case l24 => k_is)
    (case c24 => k_is)
    (case k24 => k_is)
    (case a25 => k_is)
    (case l25 => k_is)
    (case c25 => k_is)
    (case k25 => k_is)
    (case a26 => k_is)
    (case l26 => k_is)
    (case c26 => k_is)
    (case k26 => k_is)
    (case a27 => k_is)
    (case l27 => k_is)
    (case c27 => k_is)
    (case k27 => k_is)
    (case a28 => k_is)
    (case l28 => k_is)
    (case c28 => k_is)
    (case k28 => k_is)
    (case a29 => k_is)
    (case l29 => k_is)
    (case c29 => k_is)
    (case k29 => k_is)
    (case a30 => k_is)
    (case l30 => k_is)
    (case c30 => k_is)
    (case k30 => k_is)
    (case a31 => k_is)
    (case l31 => k_is)
    (case c31 => k_is)
    (case k31 => k_is)
    (case a32 => k_is)
    (case l32 => k_is)
    (case c32 => k_is)
    (case k32 => k_is)
    (case a33 => k_is)
    (case l33 => k_is)
    (case c33 => k_is)
    (case k33 => k_is)
    (case a34 => k_is)
    (case l34 => k_is)
    (case c34 => k_is)
    (case k34 => k_is)
    (case a35 => k_is)
    (case l35 => k_is)
    (case c35 => k_is)
    (case k35 => k_is)
    (case a36 => k_is)
    (case l36 => k_is)
    (case c36 => k_is)
    (case k36 => k_is)
    (case a37 => k_is)
    (case l37 => k_is)
    (case c37 => k_is)
    (case k37 => k_is)
    (case a38 => k_is)
    (case l38 => k_is)
    (case c38 => k_is)
    (case k38 => k_is)
    (case a39 => k_is)
    (case i39 => k_is)
    (case l39 => k_is)
    (case c39 => k_is)
    (case k39 => k_is)
    (case a40 => k_is)
    (case i40 => k_is)
    (case l40 => k_is)
    (case c40 => k_is)
    (case k40 => k_is)
    (case a41 => k_is)
    (case l41 => k_is)
    (case c41 => k_is)
    (case k41 => k_is)
    (case pg_Program => k_is)
    (case hd_Program => k_is)
    (case po_Program => k_is)
    (case sa_Program => k_is)
    (case mk_Program => k_is)
    (case kc_Program => k_is)
    (case n_Program_words => k_is)
    (case cc_Program => k_is)
    (case mo_Program => k_is)
    (case pg_RawProgram => k_is)
    (case hd_RawProgram => k_is)
    (case po_RawProgram => k_is)
    (case sa_RawProgram => k_is)
    (case mk_RawProgram => k_is)
    (case kc_RawProgram => k_is)
    (case n_RawProgram_words => k_is)
    (case cc_RawProgram => k_is)
    (case mo_RawProgram => k_is)
    (case nf_RawProgram_RawProgram => k_is)
    (case aq_RawProgram => k_is)
    (case ne_RawProgram => k_is)
    (case cg => k_is)
    (case ct => k_is)
    (case is_Program_Program => kit_is)
    (case is_RawProgram_Program => kit_is)
    (case is_RawProgram_RawProgram => kit_is)
    (case g_LETTERS => k_is)
    (case g_MOST_WORDS => k_is)
    (case z_int => k_is)
    (case z_sum => k_is)
    (case z_abs => k_is)
    (case z_len => k_is)
    (case z_range => k_is)
    (case z_list => k_is)
    (case z_max => k_is)
    (case z_min => k_is)
    (case z_tuple => k_is)
    (case z_enumerate => k_is)
    (case z_all => k_is)
    (case z_isinstance => k_is)
    (case z_bool => k_is)
    (case z_str => k_is)
