import PyProof.Rows.All
import Wide.All
import OpenK.AllK
import Wide.FinOn
import HandS.ForMost
import HandS.ForExc
import HandS.Wide
import HandS.IsInst
import HandS.TupAny
import HandS.Star
import HandS.Iter
import KE.GoesMore
import HandS.OwnEq
import HandS.DictComp
import HandS.SetKeys
import HandS.Conv
import HandS.Finally
import HandS.Style
import PyProof.StrBlock2
import HandS.TryOnly
import HandS.ExcIs
import HandS.SortInts
import KE.KRevSl
import HandS.TupMul
import PyProof.NeKinds
import HandS.DictTup
import PySem.Challenge.RW_oncekinds_k47_whole_programs_listed
set_option Elab.async false
set_option linter.all false
set_option maxRecDepth 100000
set_option maxHeartbeats 4000000
/-! OD1: deep data D over the hand layer: what stands for what, and how a step keeps it. -/
namespace OD
open PySem PySem.Spec L2

/-- data: what a value is, all the way down; ref a: an object that is known by its address alone (an owned one, a def, a class) -/
inductive D where
  | non | bl (b : Bool) | int (i : Int) | str (x : Str) | ref (a : Addr) | ty (n : String) | scr (ns : List Int)
  | tup (xs : List D) | lst (xs : List D) | dic (kvs : List (Key × D)) | obj (C : Addr) (fs : List (Str × D)) | cls (a : Addr)

abbrev Mark := Addr → Prop

def TupAt (K : PySem.W.Frag) (S : Mark) (H : Hp) (a : Addr) (vs : List V) : Prop :=
  (¬ S a ∧ H a = some (.tup vs)) ∨
    ∃ (o : Obj) (its : Array Value) (n : Nat), K.lookup a = some o ∧ o.cls = .type "tuple" ∧ o.data = .seq its n ∧ its.size ≤ sizeLine ∧ Vals vs its.toList
theorem TupAt.sq {K : PySem.W.Frag} {S : Mark} {H : Hp} {a : Addr} {vs : List V} (h : TupAt K S H a vs) : SqT K H a vs := by
  rcases h with ⟨_, h⟩ | h
  · exact .inl (.inl h)
  · exact .inr h

/-- a list that is read alone: the script -/
def ScrAt (K : PySem.W.Frag) (S : Mark) (H : Hp) (a : Addr) (vs : List V) : Prop :=
  (¬ S a ∧ Rd H a (.lst vs)) ∨
    ∃ (o : Obj) (its : Array Value) (n : Nat), K.lookup a = some o ∧ o.cls = .type "list" ∧ o.dict = none ∧ o.data = .seq its n ∧ its.size ≤ sizeLine ∧ Vals vs its.toList
theorem ScrAt.sq {K : PySem.W.Frag} {S : Mark} {H : Hp} {a : Addr} {vs : List V} (h : ScrAt K S H a vs) : SqL K H a vs := by
  rcases h with ⟨_, h⟩ | h
  · exact .inl h
  · exact .inr h

mutual
inductive Rep (K : PySem.W.Frag) (S : Mark) (H : Hp) : V → D → Prop
  | non : Rep K S H .non .non
  | bl (b : Bool) : Rep K S H (.bl b) (.bl b)
  | int (i : Int) : Rep K S H (.int i) (.int i)
  | str (x : Str) : Rep K S H (.str x) (.str x)
  | ref (a : Addr) : Rep K S H (.ref a) (.ref a)
  | ty (n : String) : Rep K S H (.ty n) (.ty n)
  | cls (a : Addr) : Rep K S H (.ref a) (.cls a)
  | scr {a : Addr} {ns : List Int} : ScrAt K S H a (ns.map V.int) → Rep K S H (.ref a) (.scr ns)
  | tup {a : Addr} {vs : List V} {ds : List D} : TupAt K S H a vs → Reps K S H vs ds → Rep K S H (.ref a) (.tup ds)
  | lst {a : Addr} {vs : List V} {ds : List D} : ¬ S a → H a = some (.lst vs) → Reps K S H vs ds → Rep K S H (.ref a) (.lst ds)
  | dic {a : Addr} {ws : List (Key × V)} {kvs : List (Key × D)} : ¬ S a → Rd H a (.dK ws) → RepsK K S H ws kvs → Rep K S H (.ref a) (.dic kvs)
  | obj {a C dx : Addr} {ws : List (Str × V)} {fs : List (Str × D)} : ¬ S a → H a = some (.ins C dx ws) → RepsF K S H ws fs → Rep K S H (.ref a) (.obj C fs)
inductive Reps (K : PySem.W.Frag) (S : Mark) (H : Hp) : List V → List D → Prop
  | nil : Reps K S H [] []
  | cons {v : V} {vs : List V} {d : D} {ds : List D} : Rep K S H v d → Reps K S H vs ds → Reps K S H (v :: vs) (d :: ds)
inductive RepsK (K : PySem.W.Frag) (S : Mark) (H : Hp) : List (Key × V) → List (Key × D) → Prop
  | nil : RepsK K S H [] []
  | cons {k : Key} {v : V} {ws : List (Key × V)} {d : D} {ds : List (Key × D)} : Rep K S H v d → RepsK K S H ws ds → RepsK K S H ((k, v) :: ws) ((k, d) :: ds)
inductive RepsF (K : PySem.W.Frag) (S : Mark) (H : Hp) : List (Str × V) → List (Str × D) → Prop
  | nil : RepsF K S H [] []
  | cons {k : Str} {v : V} {ws : List (Str × V)} {d : D} {ds : List (Str × D)} : Rep K S H v d → RepsF K S H ws ds → RepsF K S H ((k, v) :: ws) ((k, d) :: ds)
end

/-- what is not marked is kept, and not marked -/
def Kp (S : Mark) (H : Hp) (S' : Mark) (H' : Hp) : Prop := ∀ b o, H b = some o → ¬ S b → H' b = some o ∧ ¬ S' b

section
variable {K : PySem.W.Frag} {S S' : Mark} {H H' : Hp}
theorem Kp.rd {a : Addr} {u : HO} (k : Kp S H S' H') (n : ¬ S a) (h : Rd H a u) : Rd H' a u ∧ ¬ S' a := by
  rcases h with h | ⟨o, h⟩
  · exact ⟨.inl (k _ _ h n).1, (k _ _ h n).2⟩
  · exact ⟨.inr ⟨o, (k _ _ h n).1⟩, (k _ _ h n).2⟩
theorem TupAt.mono (k : Kp S H S' H') {a : Addr} {vs : List V} (h : TupAt K S H a vs) : TupAt K S' H' a vs := by
  rcases h with ⟨h1, h2⟩ | h
  · exact .inl ⟨(k a _ h2 h1).2, (k a _ h2 h1).1⟩
  · exact .inr h
theorem ScrAt.mono (k : Kp S H S' H') {a : Addr} {vs : List V} (h : ScrAt K S H a vs) : ScrAt K S' H' a vs := by
  rcases h with ⟨h1, h2 | ⟨o, h2⟩⟩ | h
  · exact .inl ⟨(k a _ h2 h1).2, .inl (k a _ h2 h1).1⟩
  · exact .inl ⟨(k a _ h2 h1).2, .inr ⟨o, (k a _ h2 h1).1⟩⟩
  · exact .inr h
mutual
theorem Rep.mono (k : Kp S H S' H') : ∀ (d : D) (v : V), Rep K S H v d → Rep K S' H' v d
  | .non, _, h => by cases h; exact .non
  | .bl _, _, h => by cases h; exact .bl _
  | .int _, _, h => by cases h; exact .int _
  | .str _, _, h => by cases h; exact .str _
  | .ref _, _, h => by cases h; exact .ref _
  | .ty _, _, h => by cases h; exact .ty _
  | .cls _, _, h => by cases h; exact .cls _
  | .scr _, _, h => by
    cases h with
    | scr h1 => exact .scr (h1.mono k)
  | .tup ds, _, h => by
    cases h with
    | tup h1 h2 => exact .tup (h1.mono k) (Reps.mono k ds _ h2)
  | .lst ds, _, h => by
    cases h with
    | lst h1 h2 h3 => exact .lst (k _ _ h2 h1).2 (k _ _ h2 h1).1 (Reps.mono k ds _ h3)
  | .dic kvs, _, h => by
    cases h with
    | dic h1 h2 h3 => exact .dic (k.rd h1 h2).2 (k.rd h1 h2).1 (RepsK.mono k kvs _ h3)
  | .obj C fs, _, h => by
    cases h with
    | obj h1 h2 h3 => exact .obj (k _ _ h2 h1).2 (k _ _ h2 h1).1 (RepsF.mono k fs _ h3)
theorem Reps.mono (k : Kp S H S' H') : ∀ (ds : List D) (vs : List V), Reps K S H vs ds → Reps K S' H' vs ds
  | [], _, h => by cases h; exact .nil
  | d :: ds, _, h => by
    cases h with
    | cons a b => exact .cons (Rep.mono k d _ a) (Reps.mono k ds _ b)
theorem RepsK.mono (k : Kp S H S' H') : ∀ (ds : List (Key × D)) (vs : List (Key × V)), RepsK K S H vs ds → RepsK K S' H' vs ds
  | [], _, h => by cases h; exact .nil
  | (key, d) :: ds, _, h => by
    cases h with
    | cons a b => exact .cons (Rep.mono k d _ a) (RepsK.mono k ds _ b)
theorem RepsF.mono (k : Kp S H S' H') : ∀ (ds : List (Str × D)) (vs : List (Str × V)), RepsF K S H vs ds → RepsF K S' H' vs ds
  | [], _, h => by cases h; exact .nil
  | (key, d) :: ds, _, h => by
    cases h with
    | cons a b => exact .cons (Rep.mono k d _ a) (RepsF.mono k ds _ b)
end

/-! ### rows of data -/
theorem Reps.length : ∀ {vs : List V} {ds : List D}, Reps K S H vs ds → vs.length = ds.length := fun {vs ds} => by
  induction ds generalizing vs with
  | nil => intro h; cases h; rfl
  | cons d ds ih =>
    intro h
    cases h with
    | cons a b => rw [List.length_cons, List.length_cons, ih b]
theorem Reps.get {vs : List V} {ds : List D} (h : Reps K S H vs ds) {i : Nat} {d : D} (e : ds[i]? = some d) : ∃ v, vs[i]? = some v ∧ Rep K S H v d := by
  induction ds generalizing vs i with
  | nil => cases e
  | cons x ds ih =>
    cases h with
    | cons a b =>
      cases i with
      | zero => cases e; exact ⟨_, rfl, a⟩
      | succ i =>
        obtain ⟨v, h1, h2⟩ := ih b (i := i) e
        exact ⟨v, h1, h2⟩
theorem Reps.getV {vs : List V} {ds : List D} (h : Reps K S H vs ds) {i : Nat} {v : V} (e : vs[i]? = some v) : ∃ d, ds[i]? = some d ∧ Rep K S H v d := by
  induction ds generalizing vs i with
  | nil => cases h; cases e
  | cons x ds ih =>
    cases h with
    | cons a b =>
      cases i with
      | zero => cases e; exact ⟨_, rfl, a⟩
      | succ i =>
        obtain ⟨v, h1, h2⟩ := ih b (i := i) e
        exact ⟨v, h1, h2⟩
theorem Reps.append {vs ws : List V} {ds es : List D} (h : Reps K S H vs ds) (g : Reps K S H ws es) : Reps K S H (vs ++ ws) (ds ++ es) := by
  induction ds generalizing vs with
  | nil => cases h; exact g
  | cons x ds ih =>
    cases h with
    | cons a b => exact .cons a (ih b)
theorem Reps.one {v : V} {d : D} (h : Rep K S H v d) : Reps K S H [v] [d] := .cons h .nil
theorem Reps.take {vs : List V} {ds : List D} (n : Nat) (h : Reps K S H vs ds) : Reps K S H (vs.take n) (ds.take n) := by
  induction n generalizing vs ds with
  | zero => exact .nil
  | succ n ih =>
    cases h with
    | nil => exact .nil
    | cons a b => exact .cons a (ih b)
theorem Reps.drop {vs : List V} {ds : List D} (n : Nat) (h : Reps K S H vs ds) : Reps K S H (vs.drop n) (ds.drop n) := by
  induction n generalizing vs ds with
  | zero => exact h
  | succ n ih =>
    cases h with
    | nil => exact .nil
    | cons a b => exact ih b
theorem Reps.set {vs : List V} {ds : List D} {v : V} {d : D} (n : Nat) (r : Rep K S H v d) (h : Reps K S H vs ds) : Reps K S H (vs.set n v) (ds.set n d) := by
  induction n generalizing vs ds with
  | zero =>
    cases h with
    | nil => exact .nil
    | cons a b => exact .cons r b
  | succ n ih =>
    cases h with
    | nil => exact .nil
    | cons a b => exact .cons a (ih b)
theorem Reps.eraseIdx {vs : List V} {ds : List D} (n : Nat) (h : Reps K S H vs ds) : Reps K S H (vs.eraseIdx n) (ds.eraseIdx n) := by
  induction n generalizing vs ds with
  | zero =>
    cases h with
    | nil => exact .nil
    | cons a b => exact b
  | succ n ih =>
    cases h with
    | nil => exact .nil
    | cons a b => exact .cons a (ih b)
theorem Reps.dropLast {vs : List V} {ds : List D} (h : Reps K S H vs ds) : Reps K S H vs.dropLast ds.dropLast := by
  rw [List.dropLast_eq_take, List.dropLast_eq_take, h.length]
  exact h.take _
theorem Reps.reverse {vs : List V} {ds : List D} (h : Reps K S H vs ds) : Reps K S H vs.reverse ds.reverse := by
  induction ds generalizing vs with
  | nil => cases h; exact .nil
  | cons x ds ih =>
    cases h with
    | cons a b =>
      rw [List.reverse_cons, List.reverse_cons]
      exact (ih b).append (.one a)
theorem Reps.rep {vs : List V} {ds : List D} (h : Reps K S H vs ds) : ∀ k : Nat, Reps K S H (List.replicate k vs).flatten (List.replicate k ds).flatten
  | 0 => .nil
  | k + 1 => by
    rw [List.replicate_succ, List.replicate_succ, List.flatten_cons, List.flatten_cons]
    exact h.append (Reps.rep h k)
theorem Reps.ints (ns : List Int) : Reps K S H (ns.map V.int) (ns.map D.int) := by
  induction ns with
  | nil => exact .nil
  | cons n ns ih => exact .cons (.int n) ih
theorem Reps.ints_inv {vs : List V} {ns : List Int} (h : Reps K S H vs (ns.map D.int)) : vs = ns.map V.int := by
  induction ns generalizing vs with
  | nil => cases h; rfl
  | cons n ns ih =>
    cases h with
    | cons a b =>
      cases a
      rw [ih b]; rfl
theorem Reps.strs_inv {vs : List V} {ns : List Str} (h : Reps K S H vs (ns.map D.str)) : vs = ns.map V.str := by
  induction ns generalizing vs with
  | nil => cases h; rfl
  | cons n ns ih =>
    cases h with
    | cons a b =>
      cases a
      rw [ih b]; rfl
theorem Reps.bls_inv {vs : List V} {ns : List Bool} (h : Reps K S H vs (ns.map D.bl)) : vs = ns.map V.bl := by
  induction ns generalizing vs with
  | nil => cases h; rfl
  | cons n ns ih =>
    cases h with
    | cons a b =>
      cases a
      rw [ih b]; rfl
end

/-! ### owned objects -/
inductive N where
  | lst (xs : List D) | dic (kvs : List (Key × D)) | lok (od : Obj) (ws : List (Key × V)) (kvs : List (Key × D)) | ins (C dx : Addr) (fs : List (Str × D)) | dct (kvs : List (List Key × D))
/-- what one sees of it (a dict by tuples: that it is there) -/
def N.toD (p : Addr) : N → D
  | .lst xs => .lst xs
  | .dic kvs => .dic kvs
  | .lok _ _ kvs => .dic kvs
  | .ins C _ fs => .obj C fs
  | .dct _ => .cls p
/-- the values of a dict by tuples -/
def RepsT (K : PySem.W.Frag) (S : Mark) (H : Hp) (ws : List (List Key × V)) (kvs : List (List Key × D)) : Prop := Paired (fun (p : List Key × V) (q : List Key × D) => p.1 = q.1 ∧ Rep K S H p.2 q.2) ws kvs
theorem RepsT.mono {K : PySem.W.Frag} {S S' : Mark} {H H' : Hp} (k : Kp S H S' H') {ws : List (List Key × V)} {kvs : List (List Key × D)} (h : RepsT K S H ws kvs) : RepsT K S' H' ws kvs :=
  Paired.mapP h fun _ _ z => ⟨z.1, Rep.mono k _ _ z.2⟩
abbrev Mem := List (Addr × N)
def keys (M : Mem) : List Addr := M.map (·.1)
def SM (S0 : Mark) (M : Mem) : Mark := fun a => S0 a ∨ a ∈ keys M

def NodeAt (K : PySem.W.Frag) (S : Mark) (H : Hp) (a : Addr) : N → Prop
  | .lst ds => ∃ vs, H a = some (.lst vs) ∧ Reps K S H vs ds
  | .dic kvs => ∃ ws, H a = some (.dK ws) ∧ RepsK K S H ws kvs
  | .lok od ws kvs => H a = some (.frz od (.dK ws)) ∧ RepsK K S H ws kvs
  | .ins C dx fs => ∃ ws, H a = some (.ins C dx ws) ∧ RepsF K S H ws fs
  | .dct kvs => ∃ ws, H a = some (.dT ws) ∧ RepsT K S H ws kvs

structure MemOk (K : PySem.W.Frag) (S0 : Mark) (M : Mem) (H : Hp) : Prop where
  nd : (keys M).Nodup
  at_ : ∀ e ∈ M, NodeAt K (SM S0 M) H e.1 e.2
  trk : ∀ a, S0 a → H a ≠ none
  dis : ∀ a ∈ keys M, ¬ S0 a

structure Ext (M : Mem) (H : Hp) (M' : Mem) (H' : Hp) : Prop where
  keep : ∀ b o, H b = some o → b ∉ keys M → H' b = some o
  new : ∀ b ∈ keys M', b ∈ keys M ∨ H b = none
  trk : ∀ b, H b ≠ none → H' b ≠ none
theorem Ext.refl (M : Mem) (H : Hp) : Ext M H M H := ⟨fun _ _ e _ => e, fun _ e => .inl e, fun _ e => e⟩
theorem Ext.trans {M M1 M2 : Mem} {H H1 H2 : Hp} (a : Ext M H M1 H1) (b : Ext M1 H1 M2 H2) : Ext M H M2 H2 := by
  refine ⟨fun c o e n => ?_, fun c h => ?_, fun c e => b.trk c (a.trk c e)⟩
  · refine b.keep c o (a.keep c o e n) fun h => ?_
    rcases a.new c h with h | h
    · exact n h
    · rw [e] at h; cases h
  · rcases b.new c h with h | h
    · exact a.new c h
    · by_cases z : H c = none
      · exact .inr z
      · exact absurd h (a.trk c z)
theorem Ext.kp {S0 : Mark} {M M' : Mem} {H H' : Hp} (x : Ext M H M' H') : Kp (SM S0 M) H (SM S0 M') H' := fun b o e n => by
  refine ⟨x.keep b o e fun h => n (.inr h), fun h => ?_⟩
  rcases h with h | h
  · exact n (.inl h)
  · rcases x.new b h with h | h
    · exact n (.inr h)
    · rw [e] at h; cases h

abbrev Slots := List (Option D)
def SlOk (K : PySem.W.Frag) (S : Mark) (H : Hp) (σ : St) (sl : Slots) : Prop := ∀ (i : Nat) (d : D), sl[i]? = some (some d) → ∃ v, σ[i]? = some (some v) ∧ Rep K S H v d
structure Ok (K : PySem.W.Frag) (S0 : Mark) (sl : Slots) (M : Mem) (σ : St) (H : Hp) : Prop where
  len : sl.length = σ.length
  sl : SlOk K (SM S0 M) H σ sl
  mem : MemOk K S0 M H
section
variable {K : PySem.W.Frag} {S0 : Mark} {M M' M1 : Mem} {H H' H1 : Hp} {sl : Slots} {σ : St}
theorem Rep.ext {v : V} {d : D} (r : Rep K (SM S0 M) H v d) (x : Ext M H M' H') : Rep K (SM S0 M') H' v d := Rep.mono x.kp d v r
theorem Reps.ext {v : List V} {d : List D} (r : Reps K (SM S0 M) H v d) (x : Ext M H M' H') : Reps K (SM S0 M') H' v d := Reps.mono x.kp d v r
theorem Ok.ext (k : Ok K S0 sl M σ H) (m : MemOk K S0 M' H') (x : Ext M H M' H') : Ok K S0 sl M' σ H' :=
  ⟨k.len, fun i d e => let ⟨v, h1, h2⟩ := k.sl i d e; ⟨v, h1, h2.ext x⟩, m⟩
theorem Ok.set (k : Ok K S0 sl M σ H) (i : Nat) {v : V} {d : D} (r : Rep K (SM S0 M) H v d) : Ok K S0 (sl.set i (some d)) M (σ.set i (some v)) H := by
  refine ⟨by rw [List.length_set, List.length_set, k.len], fun j e h => ?_, k.mem⟩
  by_cases z : i = j
  · subst z
    have hl : i < sl.length := by
      have := (List.getElem?_eq_some_iff.mp h).1
      rwa [List.length_set] at this
    rw [List.getElem?_set_self hl] at h
    cases h
    exact ⟨v, by rw [List.getElem?_set_self (by rw [← k.len]; exact hl)], r⟩
  · rw [List.getElem?_set_ne z] at h
    obtain ⟨v', h1, h2⟩ := k.sl j e h
    exact ⟨v', by rw [List.getElem?_set_ne z]; exact h1, h2⟩
/-- a slot is forgotten -/
theorem Ok.forget (k : Ok K S0 sl M σ H) (i : Nat) : Ok K S0 (sl.set i none) M σ H := by
  refine ⟨by rw [List.length_set, k.len], fun j e h => ?_, k.mem⟩
  by_cases z : i = j
  · subst z
    have hl : i < sl.length := by
      have := (List.getElem?_eq_some_iff.mp h).1
      rwa [List.length_set] at this
    rw [List.getElem?_set_self hl] at h
    cases h
  · rw [List.getElem?_set_ne z] at h
    exact k.sl j e h

theorem keys_append : keys (M ++ M1) = keys M ++ keys M1 := by unfold keys; rw [List.map_append]
theorem keys_set {k : Nat} {p : Addr} {n n' : N} (h : M[k]? = some (p, n)) : keys (M.set k (p, n')) = keys M := by
  unfold keys
  rw [List.map_set]
  refine List.ext_getElem? fun j => ?_
  by_cases z : k = j
  · subst z
    have hl : k < M.length := (List.getElem?_eq_some_iff.mp h).1
    rw [List.getElem?_set_self (by rw [List.length_map]; exact hl), List.getElem?_map, h]
    rfl
  · rw [List.getElem?_set_ne z]
theorem mem_keys_of {k : Nat} {p : Addr} {n : N} (h : M[k]? = some (p, n)) : p ∈ keys M := List.mem_map.mpr ⟨(p, n), List.mem_of_getElem? h, rfl⟩
theorem SM_keys {M M' : Mem} (e : keys M' = keys M) : SM S0 M' = SM S0 M := by unfold SM; rw [e]

/-- the nodes keep what they are, where their own objects are kept -/
theorem NodeAt.mono {S S' : Mark} {a : Addr} {n : N} (k : Kp S H S' H') (e : H' a = H a) (h : NodeAt K S H a n) : NodeAt K S' H' a n := by
  cases n with
  | lst ds => obtain ⟨vs, h1, h2⟩ := h; exact ⟨vs, by rw [e]; exact h1, Reps.mono k _ _ h2⟩
  | dic ds => obtain ⟨vs, h1, h2⟩ := h; exact ⟨vs, by rw [e]; exact h1, RepsK.mono k _ _ h2⟩
  | lok od ws ds => obtain ⟨h1, h2⟩ := h; exact ⟨by rw [e]; exact h1, RepsK.mono k _ _ h2⟩
  | ins C dx fs => obtain ⟨vs, h1, h2⟩ := h; exact ⟨vs, by rw [e]; exact h1, RepsF.mono k _ _ h2⟩
  | dct ds => obtain ⟨vs, h1, h2⟩ := h; exact ⟨vs, by rw [e]; exact h1, RepsT.mono k h2⟩
theorem NodeAt.some {S : Mark} {a : Addr} {n : N} (h : NodeAt K S H a n) : H a ≠ none := by
  cases n with
  | lst ds => obtain ⟨vs, h1, h2⟩ := h; rw [h1]; exact fun z => by cases z
  | dic ds => obtain ⟨vs, h1, h2⟩ := h; rw [h1]; exact fun z => by cases z
  | lok od ws ds => obtain ⟨h1, h2⟩ := h; rw [h1]; exact fun z => by cases z
  | ins C dx fs => obtain ⟨vs, h1, h2⟩ := h; rw [h1]; exact fun z => by cases z
  | dct ds => obtain ⟨vs, h1, h2⟩ := h; rw [h1]; exact fun z => by cases z
theorem MemOk.tracked (m : MemOk K S0 M H) : ∀ a, SM S0 M a → H a ≠ none := fun a h => by
  rcases h with h | h
  · exact m.trk a h
  · obtain ⟨⟨p, n⟩, h1, rfl⟩ := List.mem_map.mp h
    exact (m.at_ _ h1).some
theorem MemOk.free (m : MemOk K S0 M H) {p : Addr} (h : H p = none) : ¬ SM S0 M p := fun z => m.tracked p z h

/-- a new object, not owned -/
theorem Ext.new_imm {p : Addr} {o : HO} (h : H p = none) : Ext M H M (upd H p o) :=
  ⟨fun b o' e _ => by rw [upd_ne (ne_of_none e h)]; exact e, fun b e => .inl e, fun b e => by
    by_cases z : b = p
    · subst z; rw [upd_same]; exact fun z => by cases z
    · rw [upd_ne z]; exact e⟩
theorem MemOk.new_imm (m : MemOk K S0 M H) {p : Addr} {o : HO} (h : H p = none) : MemOk K S0 M (upd H p o) := by
  have x : Ext M H M (upd H p o) := .new_imm h
  refine ⟨m.nd, fun e he => (m.at_ e he).mono x.kp ?_, fun a s => x.trk a (m.trk a s), m.dis⟩
  rw [upd_ne]
  intro z
  exact (m.at_ e he).some (by rw [z]; exact h)
/-- a new object, owned -/
theorem Ext.new_own {p : Addr} {o : HO} {n : N} (h : H p = none) : Ext M H (M ++ [(p, n)]) (upd H p o) :=
  ⟨fun b o' e _ => by rw [upd_ne (ne_of_none e h)]; exact e, fun b e => by
    rw [keys_append] at e
    rcases List.mem_append.mp e with e | e
    · exact .inl e
    · have : b = p := by simpa [keys] using e
      subst this
      exact .inr h, (Ext.new_imm (M := M) h).trk⟩
theorem MemOk.new_own (m : MemOk K S0 M H) {p : Addr} {o : HO} {n : N} (h : H p = none) (g : NodeAt K (SM S0 (M ++ [(p, n)])) (upd H p o) p n) : MemOk K S0 (M ++ [(p, n)]) (upd H p o) := by
  have x : Ext M H (M ++ [(p, n)]) (upd H p o) := .new_own h
  have np : p ∉ keys M := fun z => m.free h (.inr z)
  refine ⟨?_, fun e he => ?_, fun a s => x.trk a (m.trk a s), fun a ha => ?_⟩
  · rw [keys_append]
    refine List.nodup_append.mpr ⟨m.nd, by simp [keys], fun a ha b hb => ?_⟩
    have : b = p := by simpa [keys] using hb
    subst this
    intro z; subst z
    exact np ha
  · rcases List.mem_append.mp he with he | he
    · refine (m.at_ e he).mono x.kp ?_
      rw [upd_ne]
      intro z
      exact (m.at_ e he).some (by rw [z]; exact h)
    · have : e = (p, n) := by simpa using he
      subst this
      exact g
  · rw [keys_append] at ha
    rcases List.mem_append.mp ha with ha | ha
    · exact m.dis a ha
    · have : a = p := by simpa [keys] using ha
      subst this
      exact fun z => m.trk a z h
/-- an owned object is written -/
theorem Ext.write {k : Nat} {p : Addr} {n n' : N} {o : HO} (e : M[k]? = some (p, n)) : Ext M H (M.set k (p, n')) (upd H p o) :=
  ⟨fun b o' e' hb => by rw [upd_ne (fun z => hb (by rw [z]; exact mem_keys_of e))]; exact e', fun b hb => by rw [keys_set e] at hb; exact .inl hb, fun b hb => by
    by_cases z : b = p
    · subst z; rw [upd_same]; exact fun z => by cases z
    · rw [upd_ne z]; exact hb⟩
theorem MemOk.write (m : MemOk K S0 M H) {k : Nat} {p : Addr} {n n' : N} {o : HO} (e : M[k]? = some (p, n)) (g : NodeAt K (SM S0 M) (upd H p o) p n') : MemOk K S0 (M.set k (p, n')) (upd H p o) := by
  have x : Ext M H (M.set k (p, n')) (upd H p o) := .write e
  have sk : SM S0 (M.set k (p, n')) = SM S0 M := SM_keys (keys_set e)
  refine ⟨by rw [keys_set e]; exact m.nd, fun q hq => ?_, fun a s => x.trk a (m.trk a s), fun a ha => by rw [keys_set e] at ha; exact m.dis a ha⟩
  obtain ⟨j, hj⟩ := List.getElem?_of_mem hq
  by_cases z : k = j
  · subst z
    rw [List.getElem?_set_self (List.getElem?_eq_some_iff.mp e).1] at hj
    cases hj
    rw [sk]; exact g
  · rw [List.getElem?_set_ne z] at hj
    have hm : q ∈ M := List.mem_of_getElem? hj
    have np : q.1 ≠ p := fun w => by
      have h1 : (keys M)[k]? = some p := by unfold keys; rw [List.getElem?_map, e]; rfl
      have h2 : (keys M)[j]? = some p := by unfold keys; rw [List.getElem?_map, hj]; exact congrArg some w
      exact z (nodup_ix2 m.nd h1 h2)
    exact (m.at_ q hm).mono x.kp (by rw [upd_ne np])
where
  nodup_ix2 {N : List Addr} (hN : N.Nodup) {i j : Nat} {x : Addr} (a : N[i]? = some x) (b : N[j]? = some x) : i = j := by
    obtain ⟨h1, e1⟩ := List.getElem?_eq_some_iff.mp a
    obtain ⟨h2, e2⟩ := List.getElem?_eq_some_iff.mp b
    exact (List.getElem_inj hN).mp (e1.trans e2.symm)
end
end OD

/-! OD2: expressions over data. -/
namespace OD
open PySem PySem.Spec L2

abbrev DK := D → Mem → Prop
abbrev XD := Value → Option (List (Str × D)) → Mem → Prop
abbrev DE := Slots → Mem → XD → DK → Prop
abbrev DT := Slots → Mem → XD → (Bool → Mem → Prop) → Prop
abbrev DA := Slots → Mem → XD → (List D → Mem → Prop) → Prop

/-- what is wanted of a value, over data and over the heap -/
def Lk (K : PySem.W.Frag) (S0 : Mark) (M : Mem) (H : Hp) (Q : VK) (QD : DK) : Prop := ∀ (d : D) (M' : Mem) (v : V) (H' : Hp), MemOk K S0 M' H' → Ext M H M' H' → Rep K (SM S0 M') H' v d → QD d M' → Q v H'
def XRep (K : PySem.W.Frag) (S : Mark) (H : Hp) : Option Addr → Option (List (Str × D)) → Prop
  | none, none => True
  | some a, some fs => ∃ ws, H a = some (.xd ws) ∧ RepsF K S H ws fs
  | _, _ => False
def XL (K : PySem.W.Frag) (S0 : Mark) (M : Mem) (H : Hp) (E : XK) (ED : XD) : Prop := ∀ (cls : Value) (fs : Option (List (Str × D))) (M' : Mem) (dd : Option Addr) (H' : Hp),
  MemOk K S0 M' H' → Ext M H M' H' → XRep K (SM S0 M') H' dd fs → ED cls fs M' → E cls dd H'
section
variable {K : PySem.W.Frag} {S0 : Mark} {M M' M1 : Mem} {H H' H1 : Hp} {sl : Slots} {σ : L2.St} {Q : VK} {QD : DK} {E : XK} {ED : XD}
theorem Lk.ext (l : Lk K S0 M H Q QD) (x : Ext M H M1 H1) : Lk K S0 M1 H1 Q QD := fun d M' v H' m y r q => l d M' v H' m (x.trans y) r q
theorem XL.ext (l : XL K S0 M H E ED) (x : Ext M H M1 H1) : XL K S0 M1 H1 E ED := fun c f M' d H' m y r q => l c f M' d H' m (x.trans y) r q
theorem Lk.now (l : Lk K S0 M H Q QD) (m : MemOk K S0 M H) {d : D} {v : V} (r : Rep K (SM S0 M) H v d) (q : QD d M) : Q v H := l d M v H m (.refl _ _) r q
end

def SimE (K : PySem.W.Frag) (E : L2.St → XK) (t : TE) (td : DE) : Prop := ∀ (S0 : Mark) (sl : Slots) (M : Mem) (σ : L2.St) (H : Hp) (Q : VK) (QD : DK) (ED : XD),
  Ok K S0 sl M σ H → XL K S0 M H (E σ) ED → td sl M ED QD → Lk K S0 M H Q QD → t σ H Q
def SimT (K : PySem.W.Frag) (E : L2.St → XK) (t : TT) (td : DT) : Prop := ∀ (S0 : Mark) (sl : Slots) (M : Mem) (σ : L2.St) (H : Hp) (Q : Bool → Hp → Prop) (QD : Bool → Mem → Prop) (ED : XD),
  Ok K S0 sl M σ H → XL K S0 M H (E σ) ED → td sl M ED QD → (∀ b M' H', MemOk K S0 M' H' → Ext M H M' H' → QD b M' → Q b H') → t σ H Q
def SimA (K : PySem.W.Frag) (E : L2.St → XK) (t : TA) (td : DA) : Prop := ∀ (S0 : Mark) (sl : Slots) (M : Mem) (σ : L2.St) (H : Hp) (Q : List V → Hp → Prop) (QD : List D → Mem → Prop) (ED : XD),
  Ok K S0 sl M σ H → XL K S0 M H (E σ) ED → td sl M ED QD → (∀ ds M' vs H', MemOk K S0 M' H' → Ext M H M' H' → Reps K (SM S0 M') H' vs ds → QD ds M' → Q vs H') → t σ H Q

structure DEx (X : Cx) (E : L2.St → XK) (e : Expr) (td : DE) : Prop where
  ex : ∃ t, PE X e t ∧ SimE X.K E t td
structure DTx (X : Cx) (E : L2.St → XK) (e : Expr) (td : DT) : Prop where
  ex : ∃ t, PT X e t ∧ SimT X.K E t td
structure DWx (X : Cx) (E : L2.St → XK) (e : Expr) (td : DT) : Prop where
  ex : ∃ t, PW X e t ∧ SimT X.K E t td
structure DAx (X : Cx) (E : L2.St → XK) (es : List Expr) (td : DA) : Prop where
  ex : ∃ t, PA X es t ∧ SimA X.K E t td

/-! ### a look at what an owned object holds -/
def vw (M : Mem) (d : D) (P : D → Prop) : Prop := match d with
  | .ref p => ∃ (k : Nat) (n : N), M[k]? = some (p, n) ∧ P (n.toD p)
  | d => P d
inductive RepT (K : PySem.W.Frag) (S : Mark) (H : Hp) : V → D → Prop
  | imm {v : V} {d : D} : Rep K S H v d → RepT K S H v d
  | lst {a : Addr} {vs : List V} {ds : List D} : H a = some (.lst vs) → Reps K S H vs ds → RepT K S H (.ref a) (.lst ds)
  | dic {a : Addr} {vs : List (Key × V)} {ds : List (Key × D)} : Rd H a (.dK vs) → RepsK K S H vs ds → RepT K S H (.ref a) (.dic ds)
  | obj {a C dx : Addr} {vs : List (Str × V)} {ds : List (Str × D)} : H a = some (.ins C dx vs) → RepsF K S H vs ds → RepT K S H (.ref a) (.obj C ds)
section
variable {K : PySem.W.Frag} {S S0 : Mark} {M : Mem} {H : Hp} {v : V} {d : D} {P : D → Prop}
theorem vw_of (m : MemOk K S0 M H) (r : Rep K (SM S0 M) H v d) (h : vw M d P) : ∃ w, P w ∧ RepT K (SM S0 M) H v w := by
  cases d with
  | ref p =>
    obtain ⟨k, n, e, q⟩ := h
    have g := m.at_ _ (List.mem_of_getElem? e)
    cases r
    cases n with
    | lst ds => obtain ⟨vs, h1, h2⟩ := g; exact ⟨_, q, .lst h1 h2⟩
    | dic ds => obtain ⟨vs, h1, h2⟩ := g; exact ⟨_, q, .dic (.inl h1) h2⟩
    | lok od ws ds => obtain ⟨h1, h2⟩ := g; exact ⟨_, q, .dic (.inr ⟨od, h1⟩) h2⟩
    | ins C dx ds => obtain ⟨vs, h1, h2⟩ := g; exact ⟨_, q, .obj h1 h2⟩
    | dct ds => exact ⟨_, q, .imm (.cls _)⟩
  | _ => exact ⟨_, h, .imm r⟩
theorem RepT.lst_inv {ds : List D} (r : RepT K S H v (.lst ds)) : ∃ a vs, v = .ref a ∧ H a = some (.lst vs) ∧ Reps K S H vs ds := by
  cases r with
  | imm r => cases r with
    | lst h1 h2 h3 => exact ⟨_, _, rfl, h2, h3⟩
  | lst h1 h2 => exact ⟨_, _, rfl, h1, h2⟩
theorem RepT.tup_inv {ds : List D} (r : RepT K S H v (.tup ds)) : ∃ a vs, v = .ref a ∧ SqT K H a vs ∧ Reps K S H vs ds := by
  cases r with
  | imm r => cases r with
    | tup h1 h2 => exact ⟨_, _, rfl, h1.sq, h2⟩
theorem RepT.dic_inv {ds : List (Key × D)} (r : RepT K S H v (.dic ds)) : ∃ a vs, v = .ref a ∧ Rd H a (.dK vs) ∧ RepsK K S H vs ds := by
  cases r with
  | imm r => cases r with
    | dic h1 h2 h3 => exact ⟨_, _, rfl, h2, h3⟩
  | dic h1 h2 => exact ⟨_, _, rfl, h1, h2⟩
theorem RepT.obj_inv {C : Addr} {ds : List (Str × D)} (r : RepT K S H v (.obj C ds)) : ∃ a dx vs, v = .ref a ∧ H a = some (.ins C dx vs) ∧ RepsF K S H vs ds := by
  cases r with
  | imm r => cases r with
    | obj h1 h2 h3 => exact ⟨_, _, _, rfl, h2, h3⟩
  | obj h1 h2 => exact ⟨_, _, _, rfl, h1, h2⟩
theorem RepT.scr_inv {ns : List Int} (r : RepT K S H v (.scr ns)) : ∃ a, v = .ref a ∧ SqL K H a (ns.map V.int) := by
  cases r with
  | imm r => cases r with
    | scr h1 => exact ⟨_, rfl, h1.sq⟩
theorem RepT.int_inv {i : Int} (r : RepT K S H v (.int i)) : v = .int i := by
  cases r with
  | imm r => cases r; rfl
theorem RepT.bl_inv {i : Bool} (r : RepT K S H v (.bl i)) : v = .bl i := by
  cases r with
  | imm r => cases r; rfl
theorem RepT.str_inv {i : Str} (r : RepT K S H v (.str i)) : v = .str i := by
  cases r with
  | imm r => cases r; rfl
theorem RepT.non_inv (r : RepT K S H v .non) : v = .non := by
  cases r with
  | imm r => cases r; rfl
theorem RepT.ty_inv {n : String} (r : RepT K S H v (.ty n)) : v = .ty n := by
  cases r with
  | imm r => cases r; rfl
end

/-! ### new objects -/
/-- o: is the new object to be owned -/
def al (o : Bool) (n : N) (M : Mem) (Q : DK) : Prop := match o with
  | true => ∀ p, p ∉ keys M → Q (.ref p) (M ++ [(p, n)])
  | false => Q (n.toD 0) M
section
variable {K : PySem.W.Frag} {S0 : Mark} {M : Mem} {H : Hp} {Q : VK} {QD : DK}
theorem MemOk.notKey (m : MemOk K S0 M H) {p : Addr} (h : H p = none) : p ∉ keys M := fun z => m.free h (.inr z)
theorem al_lst {o : Bool} {vs : List V} {ds : List D} (m : MemOk K S0 M H) (r : Reps K (SM S0 M) H vs ds) (h : al o (.lst ds) M QD) (l : Lk K S0 M H Q QD) : ∀ p, H p = none → Q (.ref p) (upd H p (.lst vs)) := fun p np => by
  cases o with
  | true =>
    refine l (.ref p) _ _ _ (m.new_own (n := .lst ds) np ⟨vs, upd_same, r.ext (.new_own np)⟩) (.new_own np) (.ref p) (h p (m.notKey np))
  | false =>
    exact l (.lst ds) M _ _ (m.new_imm np) (.new_imm np) (.lst (m.free np) upd_same (r.ext (.new_imm np))) h
theorem al_dic {o : Bool} {vs : List (Key × V)} {ds : List (Key × D)} (m : MemOk K S0 M H) (r : RepsK K (SM S0 M) H vs ds) (h : al o (.dic ds) M QD) (l : Lk K S0 M H Q QD) : ∀ p, H p = none → Q (.ref p) (upd H p (.dK vs)) := fun p np => by
  cases o with
  | true =>
    refine l (.ref p) _ _ _ (m.new_own (n := .dic ds) np ⟨vs, upd_same, RepsK.mono (Ext.new_own np).kp _ _ r⟩) (.new_own np) (.ref p) (h p (m.notKey np))
  | false =>
    exact l (.dic ds) M _ _ (m.new_imm np) (.new_imm np) (.dic (m.free np) (.inl upd_same) (RepsK.mono (Ext.new_imm np).kp _ _ r)) h
theorem new_tup {vs : List V} {ds : List D} (m : MemOk K S0 M H) (r : Reps K (SM S0 M) H vs ds) (h : QD (.tup ds) M) (l : Lk K S0 M H Q QD) : ∀ p, H p = none → Q (.ref p) (upd H p (.tup vs)) := fun p np =>
  l (.tup ds) M _ _ (m.new_imm np) (.new_imm np) (.tup (.inl ⟨m.free np, upd_same⟩) (r.ext (.new_imm np))) h
end

/-! ### names, constants -/
section
variable {X : Cx} {E : L2.St → XK}
def dVar (i : Nat) : DE := fun sl M _ Q => ∃ d, sl[i]? = some (some d) ∧ Q d M
def dC (d : D) : DE := fun _ M _ Q => Q d M
theorem de_var {i : Nat} {e : Expr} (h : PE X e (tVar i)) : DEx X E e (dVar i) := ⟨_, h, fun S0 sl M σ H Q QD ED k xl hd l => by
  obtain ⟨d, e1, q⟩ := hd
  obtain ⟨v, e2, r⟩ := k.sl i d e1
  exact ⟨v, e2, l.now k.mem r q⟩⟩
theorem sim_c {K : PySem.W.Frag} {v : V} {d : D} (h : ∀ S H, Rep K S H v d) : SimE K E (tC v) (dC d) := fun S0 sl M σ H Q QD ED k xl hd l => l.now k.mem (h _ _) hd
theorem de_int {i : Int} {j pos} : DEx X E (.Constant (.int i) j pos) (dC (.int i)) := ⟨_, pe_int, sim_c fun _ _ => .int i⟩
theorem de_bl {i : Bool} {j pos} : DEx X E (.Constant (.bool i) j pos) (dC (.bl i)) := ⟨_, pe_bl, sim_c fun _ _ => .bl i⟩
theorem de_str {i : Str} {j pos} : DEx X E (.Constant (.str i) j pos) (dC (.str i)) := ⟨_, pe_str, sim_c fun _ _ => .str i⟩
theorem de_non {j pos} : DEx X E (.Constant .none j pos) (dC .non) := ⟨_, pe_non, sim_c fun _ _ => .non⟩
theorem de_glob {x : Str} {v : V} {d : D} {u : Value} {pos : Pos} (hg : Gl X x) (hm : X.mg x = some u) (r : RelV v u) (h : ∀ S H, Rep X.K S H v d) (hd : (x == ("__debug__" : Str)) = false := by decide) : DEx X E (.Name x pos) (dC d) := ⟨_, pe_glob hg hm r hd, sim_c h⟩
theorem de_bltn {x : Str} {v : V} {d : D} {u : Value} {pos : Pos} (hg : Gl X x) (hm : X.mg x = none) (hv : bootBuiltins x = some u) (r : RelV v u) (h : ∀ S H, Rep X.K S H v d) (hn : x ≠ "__name__" := by decide) (hd : (x == ("__debug__" : Str)) = false := by decide) : DEx X E (.Name x pos) (dC d) := ⟨_, pe_bltn hg hm hv r hn hd, sim_c h⟩

/-! ### operators by values -/
def SimV2 (K : PySem.W.Frag) (r : R2) (rd : D → D → Mem → DK → Prop) : Prop := ∀ (S0 : Mark) (M : Mem) (H : Hp) (x y : V) (dx dy : D) (Q : VK) (QD : DK),
  MemOk K S0 M H → RepT K (SM S0 M) H x dx → RepT K (SM S0 M) H y dy → rd dx dy M QD → Lk K S0 M H Q QD → r x y H Q
def dOp (rd : D → D → Mem → DK → Prop) (da db : DE) : DE := fun sl M ED Q => da sl M ED fun x M1 => db sl M1 ED fun y M2 => vw M2 x fun x' => vw M2 y fun y' => rd x' y' M2 Q
theorem sim_op {K : PySem.W.Frag} {r : R2} {rd : D → D → Mem → DK → Prop} {ta tb : TE} {da db : DE} (hr : SimV2 K r rd) (ha : SimE K E ta da) (hb : SimE K E tb db) : SimE K E (tOp r ta tb) (dOp rd da db) := by
  intro S0 sl M σ H Q QD ED k xl hd l
  refine ha S0 sl M σ H _ _ ED k xl hd fun d1 M1 x H1 m1 x1 r1 q1 => ?_
  refine hb S0 sl M1 σ H1 _ _ ED (k.ext m1 x1) (xl.ext x1) q1 fun d2 M2 y H2 m2 x2 r2 q2 => ?_
  obtain ⟨w1, q3, t1⟩ := vw_of m2 (r1.ext x2) q2
  obtain ⟨w2, q4, t2⟩ := vw_of m2 r2 q3
  exact hr S0 M2 H2 x y w1 w2 Q QD m2 t1 t2 q4 (l.ext (x1.trans x2))
def SimV1 (K : PySem.W.Frag) (r : V → Hp → VK → Prop) (rd : D → Mem → DK → Prop) : Prop := ∀ (S0 : Mark) (M : Mem) (H : Hp) (x : V) (dx : D) (Q : VK) (QD : DK),
  MemOk K S0 M H → RepT K (SM S0 M) H x dx → rd dx M QD → Lk K S0 M H Q QD → r x H Q
def dUn (rd : D → Mem → DK → Prop) (da : DE) : DE := fun sl M ED Q => da sl M ED fun x M1 => vw M1 x fun x' => rd x' M1 Q
theorem sim_un {K : PySem.W.Frag} {r : V → Hp → VK → Prop} {rd : D → Mem → DK → Prop} {ta : TE} {da : DE} (hr : SimV1 K r rd) (ha : SimE K E ta da) : SimE K E (tUn r ta) (dUn rd da) := by
  intro S0 sl M σ H Q QD ED k xl hd l
  refine ha S0 sl M σ H _ _ ED k xl hd fun d1 M1 x H1 m1 x1 r1 q1 => ?_
  obtain ⟨w1, q3, t1⟩ := vw_of m1 r1 q1
  exact hr S0 M1 H1 x w1 Q QD m1 t1 q3 (l.ext x1)
variable {a b c : Expr} {pos : Pos} {da db dc : DE}
theorem de_op {op : Operator} {r : R2} {rd : D → D → Mem → DK → Prop} (ho : OpR X (binaryOp op) r) (hr : SimV2 X.K r rd) (ha : DEx X E a da) (hb : DEx X E b db) : DEx X E (.BinOp a op b pos) (dOp rd da db) := by
  obtain ⟨ta, p1, s1⟩ := ha
  obtain ⟨tb, p2, s2⟩ := hb
  exact ⟨_, pe_op ho p1 p2, sim_op hr s1 s2⟩
theorem de_un {op : UnaryOp} {r : V → Hp → VK → Prop} {rd : D → Mem → DK → Prop} (ho : UnR X (unaryOp op) r) (hr : SimV1 X.K r rd) (ha : DEx X E a da) : DEx X E (.UnaryOp op a pos) (dUn rd da) := by
  obtain ⟨ta, p1, s1⟩ := ha
  exact ⟨_, pe_un ho p1, sim_un hr s1⟩
theorem de_cmp {op : CmpOp} {r : R2} {rd : D → D → Mem → DK → Prop} (ho : OpR X (compareOp op) r) (hr : SimV2 X.K r rd) (ha : DEx X E a da) (hb : DEx X E b db) (hm : behindInMarks op b = false := by first | exact nomark _ | rfl) : DEx X E (.Compare a [op] [b] pos) (dOp rd da db) := by
  obtain ⟨ta, p1, s1⟩ := ha
  obtain ⟨tb, p2, s2⟩ := hb
  exact ⟨_, pe_cmpR ho p1 p2 hm, sim_op hr s1 s2⟩
/-- a value that is a bool, as a test -/
def dTest (t : DE) : DT := fun sl M ED Q => t sl M ED fun x M' => ∃ k, x = .bl k ∧ Q k M'
theorem sim_test {K : PySem.W.Frag} {t : TE} {td : DE} (h : SimE K E t td) : SimT K E (tTest t) (dTest td) := by
  intro S0 sl M σ H Q QD ED k xl hd l
  refine h S0 sl M σ H _ _ ED k xl hd fun d1 M1 x H1 m1 x1 r1 q1 => ?_
  obtain ⟨b, e, q⟩ := q1
  subst e
  cases r1
  exact ⟨b, rfl, l b M1 H1 m1 x1 q⟩
theorem dt_cmp {op : CmpOp} {r : R2} {rd : D → D → Mem → DK → Prop} (ho : OpR X (compareOp op) r) (hr : SimV2 X.K r rd) (ha : DEx X E a da) (hb : DEx X E b db) (hm : behindInMarks op b = false := by first | exact nomark _ | rfl) : DTx X E (.Compare a [op] [b] pos) (dTest (dOp rd da db)) := by
  obtain ⟨ta, p1, s1⟩ := ha
  obtain ⟨tb, p2, s2⟩ := hb
  exact ⟨_, pt_cmpR ho p1 p2 hm, sim_test (sim_op hr s1 s2)⟩
/-- a < b < c -/
def dChain (rd rd' : D → D → Mem → DK → Prop) (da db dc : DE) : DE := fun sl M ED Q => da sl M ED fun x M1 => db sl M1 ED fun y M2 => vw M2 x fun x' => vw M2 y fun y' => rd x' y' M2 fun z M3 => ∃ k, z = .bl k ∧
  if k = true then dc sl M3 ED fun w M4 => vw M4 y fun y'' => vw M4 w fun w' => rd' y'' w' M4 Q else Q (.bl false) M3
theorem sim_chain {K : PySem.W.Frag} {r r' : R2} {rd rd' : D → D → Mem → DK → Prop} {ta tb tc : TE} {da db dc : DE} (hr : SimV2 K r rd) (hr' : SimV2 K r' rd') (ha : SimE K E ta da) (hb : SimE K E tb db) (hc : SimE K E tc dc) :
    SimE K E (tChain r r' ta tb tc) (dChain rd rd' da db dc) := by
  intro S0 sl M σ H Q QD ED k xl hd l
  refine ha S0 sl M σ H _ _ ED k xl hd fun d1 M1 x H1 m1 x1 r1 q1 => ?_
  refine hb S0 sl M1 σ H1 _ _ ED (k.ext m1 x1) (xl.ext x1) q1 fun d2 M2 y H2 m2 x2 r2 q2 => ?_
  obtain ⟨w1, q3, t1⟩ := vw_of m2 (r1.ext x2) q2
  obtain ⟨w2, q4, t2⟩ := vw_of m2 r2 q3
  refine hr S0 M2 H2 x y w1 w2 _ _ m2 t1 t2 q4 fun d3 M3 z H3 m3 x3 r3 q5 => ?_
  obtain ⟨b, e, q6⟩ := q5
  subst e
  cases r3
  refine ⟨b, rfl, ?_⟩
  have x13 := (x1.trans x2).trans x3
  cases b with
  | true =>
    rw [if_pos rfl] at q6 ⊢
    refine hc S0 sl M3 σ H3 _ _ ED (k.ext m3 x13) (xl.ext x13) q6 fun d4 M4 w H4 m4 x4 r4 q7 => ?_
    obtain ⟨w3, q8, t3⟩ := vw_of m4 (r2.ext (x3.trans x4)) q7
    obtain ⟨w4, q9, t4⟩ := vw_of m4 r4 q8
    exact hr' S0 M4 H4 y w w3 w4 Q QD m4 t3 t4 q9 (l.ext (x13.trans x4))
  | false =>
    rw [if_neg Bool.false_ne_true] at q6 ⊢
    exact l _ _ _ _ m3 x13 (.bl false) q6
theorem de_chain {op op' : CmpOp} {r r' : R2} {rd rd' : D → D → Mem → DK → Prop} (ho : OpR X (compareOp op) r) (hr : SimV2 X.K r rd) (ho' : OpR X (compareOp op') r') (hr' : SimV2 X.K r' rd') (ha : DEx X E a da) (hb : DEx X E b db) (hc : DEx X E c dc)
    (hm : lastMarks [op, op'] [b, c] = false := by with_unfolding_all rfl) : DEx X E (.Compare a [op, op'] [b, c] pos) (dChain rd rd' da db dc) := by
  obtain ⟨ta, p1, s1⟩ := ha
  obtain ⟨tb, p2, s2⟩ := hb
  obtain ⟨tc, p3, s3⟩ := hc
  exact ⟨_, pe_chain ho ho' p1 p2 p3 hm, sim_chain hr hr' s1 s2 s3⟩
theorem dt_chain {op op' : CmpOp} {r r' : R2} {rd rd' : D → D → Mem → DK → Prop} (ho : OpR X (compareOp op) r) (hr : SimV2 X.K r rd) (ho' : OpR X (compareOp op') r') (hr' : SimV2 X.K r' rd') (ha : DEx X E a da) (hb : DEx X E b db) (hc : DEx X E c dc)
    (hm : lastMarks [op, op'] [b, c] = false := by with_unfolding_all rfl) : DTx X E (.Compare a [op, op'] [b, c] pos) (dTest (dChain rd rd' da db dc)) := by
  obtain ⟨ta, p1, s1⟩ := ha
  obtain ⟨tb, p2, s2⟩ := hb
  obtain ⟨tc, p3, s3⟩ := hc
  exact ⟨_, pt_chain ho ho' p1 p2 p3 hm, sim_test (sim_chain hr hr' s1 s2 s3)⟩
end
end OD

/-! OD3: the operators by values. -/
namespace OD
open PySem PySem.Spec L2

/-! ### + - * // % ** -/
def addD (o : Bool) : D → D → Mem → DK → Prop
  | .int i, .int j, M, Q => Q (.int (i + j)) M
  | .str x, .str y, M, Q => x.length + y.length ≤ sizeLine ∧ Q (.str (x ++ y)) M
  | .lst a, .lst b, M, Q => a.length + b.length ≤ sizeLine ∧ al o (.lst (a ++ b)) M Q
  | .tup a, .tup b, M, Q => a.length + b.length ≤ sizeLine ∧ Q (.tup (a ++ b)) M
  | _, _, _, _ => False
def subD : D → D → Mem → DK → Prop
  | .int i, .int j, M, Q => Q (.int (i - j)) M
  | _, _, _, _ => False
def MulOk (i j : Int) : Prop := CMul i j ∨ CMulW i j
def mulD (o : Bool) : D → D → Mem → DK → Prop
  | .int i, .int j, M, Q => MulOk i j ∧ Q (.int (i * j)) M
  | .lst a, .int k, M, Q => -(2 ^ 63) ≤ k ∧ k < 2 ^ 63 ∧ a.length * k.toNat ≤ sizeLine ∧ al o (.lst (List.replicate k.toNat a).flatten) M Q
  | _, _, _, _ => False
def divD : D → D → Mem → DK → Prop
  | .int i, .int j, M, Q => (0 < j ∧ j.natAbs.log2 < 9000) ∧ Q (.int (i / j)) M
  | _, _, _, _ => False
def modD : D → D → Mem → DK → Prop
  | .int i, .int j, M, Q => 0 < j ∧ Q (.int (i % j)) M
  | _, _, _, _ => False
def powD : D → D → Mem → DK → Prop
  | .int i, .int j, M, Q => (0 ≤ j ∧ j ≤ 1000000 ∧ i.natAbs < 2 ^ 64) ∧ Q (.int (i ^ j.toNat)) M
  | _, _, _, _ => False
def ordD (f : Int → Int → Bool) (g : List Nat → List Nat → Bool) : D → D → Mem → DK → Prop
  | .int i, .int j, M, Q => Q (.bl (f i j)) M
  | .str x, .str y, M, Q => Q (.bl (g x.cps.toList y.cps.toList)) M
  | _, _, _, _ => False
abbrev ltD := ordD (fun i j => decide (i < j)) (fun x y => decide (x < y))
abbrev leD := ordD (fun i j => decide (i ≤ j)) (fun x y => !decide (y < x))
abbrev gtD := ordD (fun i j => decide (j < i)) (fun x y => decide (y < x))
abbrev geD := ordD (fun i j => decide (j ≤ i)) (fun x y => !decide (x < y))

section
variable {X : Cx} {K : PySem.W.Frag}
def rAddA (K : PySem.W.Frag) : R2 := fun x y H Q => rI0 (fun i j => .int (i + j)) x y H Q ∨ (∃ i j, x = .str i ∧ y = .str j ∧ i.length + j.length ≤ sizeLine ∧ Q (.str (i ++ j)) H) ∨ rCat x y H Q ∨ rCatA K x y H Q
theorem op_addA : OpR X (binaryOp .Add) (rAddA X.K) := op_add.or (op_add_str.or (op_cat.or op_catA))
theorem sv_add {o : Bool} : SimV2 K (rAddA K) (addD o) := by
  intro S0 M H x y dx dy Q QD m rx ry h l
  cases dx with
  | int i =>
    cases dy with
    | int j =>
      cases rx.int_inv; cases ry.int_inv
      exact .inl ⟨i, j, rfl, rfl, l.now m (.int _) h⟩
    | _ => exact h.elim
  | str i =>
    cases dy with
    | str j =>
      cases rx.str_inv; cases ry.str_inv
      exact .inr (.inl ⟨i, j, rfl, rfl, h.1, l.now m (.str _) h.2⟩)
    | _ => exact h.elim
  | lst a =>
    cases dy with
    | lst b =>
      obtain ⟨p, vs, rfl, h1, r1⟩ := rx.lst_inv
      obtain ⟨q, ws, rfl, h2, r2⟩ := ry.lst_inv
      exact .inr (.inr (.inl ⟨p, q, vs, ws, rfl, rfl, h1, h2, by rw [r1.length, r2.length]; exact h.1, al_lst m (r1.append r2) h.2 l⟩))
    | _ => exact h.elim
  | tup a =>
    cases dy with
    | tup b =>
      obtain ⟨p, vs, rfl, h1, r1⟩ := rx.tup_inv
      obtain ⟨q, ws, rfl, h2, r2⟩ := ry.tup_inv
      refine .inr (.inr (.inr ⟨p, q, vs, ws, rfl, rfl, h1, h2, by rw [r1.length, r2.length]; exact h.1, fun e => ?_, fun _ e => ?_, fun _ _ => new_tup m (r1.append r2) h.2 l⟩))
      · subst e
        cases r1
        cases ry with
        | imm r => exact l.now m r h.2
      · subst e
        cases r2
        cases rx with
        | imm r => exact l.now m r (by have := h.2; rwa [List.append_nil] at this)
    | _ => exact h.elim
  | _ => exact h.elim
theorem sv_sub : SimV2 K (rI0 fun i j => .int (i - j)) subD := by
  intro S0 M H x y dx dy Q QD m rx ry h l
  cases dx with
  | int i =>
    cases dy with
    | int j =>
      cases rx.int_inv; cases ry.int_inv
      exact ⟨i, j, rfl, rfl, l.now m (.int _) h⟩
    | _ => exact h.elim
  | _ => exact h.elim
def rMulA : R2 := fun x y H Q => rI CMul (fun i j => .int (i * j)) x y H Q ∨ rI CMulW (fun i j => .int (i * j)) x y H Q ∨ rRep x y H Q
theorem op_mulA : OpR X (binaryOp .Mult) rMulA := op_mul.or (op_mulW.or op_rep)
theorem sv_mul {o : Bool} : SimV2 K rMulA (mulD o) := by
  intro S0 M H x y dx dy Q QD m rx ry h l
  cases dx with
  | int i =>
    cases dy with
    | int j =>
      cases rx.int_inv; cases ry.int_inv
      rcases h.1 with c | c
      · exact .inl ⟨i, j, rfl, rfl, c, l.now m (.int _) h.2⟩
      · exact .inr (.inl ⟨i, j, rfl, rfl, c, l.now m (.int _) h.2⟩)
    | _ => exact h.elim
  | lst a =>
    cases dy with
    | int k =>
      obtain ⟨p, vs, rfl, h1, r1⟩ := rx.lst_inv
      cases ry.int_inv
      exact .inr (.inr ⟨p, k, vs, rfl, rfl, h1, h.1, h.2.1, by rw [r1.length]; exact h.2.2.1, al_lst m (r1.rep _) h.2.2.2 l⟩)
    | _ => exact h.elim
  | _ => exact h.elim
theorem sv_div : SimV2 K (rI CDivW fun i j => .int (i / j)) divD := by
  intro S0 M H x y dx dy Q QD m rx ry h l
  cases dx with
  | int i =>
    cases dy with
    | int j =>
      cases rx.int_inv; cases ry.int_inv
      exact ⟨i, j, rfl, rfl, h.1, l.now m (.int _) h.2⟩
    | _ => exact h.elim
  | _ => exact h.elim
theorem sv_mod : SimV2 K (rI (fun _ j => 0 < j) fun i j => .int (i % j)) modD := by
  intro S0 M H x y dx dy Q QD m rx ry h l
  cases dx with
  | int i =>
    cases dy with
    | int j =>
      cases rx.int_inv; cases ry.int_inv
      exact ⟨i, j, rfl, rfl, h.1, l.now m (.int _) h.2⟩
    | _ => exact h.elim
  | _ => exact h.elim
theorem sv_pow : SimV2 K (rI CPow fun i j => .int (i ^ j.toNat)) powD := by
  intro S0 M H x y dx dy Q QD m rx ry h l
  cases dx with
  | int i =>
    cases dy with
    | int j =>
      cases rx.int_inv; cases ry.int_inv
      exact ⟨i, j, rfl, rfl, h.1, l.now m (.int _) h.2⟩
    | _ => exact h.elim
  | _ => exact h.elim
def rOrd (f : Int → Int → Bool) (g : List Nat → List Nat → Bool) : R2 := fun x y H Q => rI0 (fun i j => .bl (f i j)) x y H Q ∨ ∃ i j, x = .str i ∧ y = .str j ∧ Q (.bl (g i.cps.toList j.cps.toList)) H
theorem sv_ord {f : Int → Int → Bool} {g : List Nat → List Nat → Bool} : SimV2 K (rOrd f g) (ordD f g) := by
  intro S0 M H x y dx dy Q QD m rx ry h l
  cases dx with
  | int i =>
    cases dy with
    | int j =>
      cases rx.int_inv; cases ry.int_inv
      exact .inl ⟨i, j, rfl, rfl, l.now m (.bl _) h⟩
    | _ => exact h.elim
  | str i =>
    cases dy with
    | str j =>
      cases rx.str_inv; cases ry.str_inv
      exact .inr ⟨i, j, rfl, rfl, l.now m (.bl _) h⟩
    | _ => exact h.elim
  | _ => exact h.elim
theorem op_ltA : OpR X (compareOp .Lt) (rOrd (fun i j => decide (i < j)) (fun x y => decide (x < y))) := op_lt.or op_lt_str
theorem op_leA : OpR X (compareOp .LtE) (rOrd (fun i j => decide (i ≤ j)) (fun x y => !decide (y < x))) := op_le.or op_le_str
theorem op_gtA : OpR X (compareOp .Gt) (rOrd (fun i j => decide (j < i)) (fun x y => decide (y < x))) := op_gt.or op_gt_str
theorem op_geA : OpR X (compareOp .GtE) (rOrd (fun i j => decide (j ≤ i)) (fun x y => !decide (x < y))) := op_ge.or op_ge_str
/-! ### - not -/
def negD : D → Mem → DK → Prop
  | .int i, M, Q => Q (.int (-i)) M
  | _, _, _ => False
theorem sv_neg : SimV1 K (rU fun i => .int (-i)) negD := by
  intro S0 M H x dx Q QD m rx h l
  cases dx with
  | int i =>
    cases rx.int_inv
    exact ⟨i, rfl, l.now m (.int _) h⟩
  | _ => exact h.elim

/-! ### == != is -/
mutual
def toPy : D → Option PyData
  | .non => some .none
  | .bl b => some (.bool b)
  | .int i => some (.int i)
  | .str x => some (.str x)
  | .lst xs => (toPys xs).map .list
  | .tup xs => (toPys xs).map .tuple
  | .ref _ => none
  | .ty _ => none
  | .cls _ => none
  | .scr _ => none
  | .dic _ => none
  | .obj _ _ => none
def toPys : List D → Option (List PyData)
  | [] => some []
  | d :: ds => (toPy d).bind fun x => (toPys ds).map fun xs => x :: xs
end
mutual
theorem dp_of {S : Mark} {H : Hp} : ∀ (d : D) (v : V) (p : PyData), Rep K S H v d → toPy d = some p → Dp K H v p
  | .non, _, _, r, e => by cases r; cases e; exact .non
  | .bl _, _, _, r, e => by cases r; cases e; exact .bl _
  | .int _, _, _, r, e => by cases r; cases e; exact .int _
  | .str _, _, _, r, e => by cases r; cases e; exact .str _
  | .lst xs, _, _, r, e => by
    cases r with
    | lst h1 h2 h3 =>
      unfold toPy at e
      cases q : toPys xs with
      | none => rw [q] at e; cases e
      | some ps =>
        rw [q] at e
        cases e
        exact .lst (.inl (.inl h2)) (dps_of xs _ _ h3 q)
  | .tup xs, _, _, r, e => by
    cases r with
    | tup h1 h3 =>
      unfold toPy at e
      cases q : toPys xs with
      | none => rw [q] at e; cases e
      | some ps =>
        rw [q] at e
        cases e
        exact .tup h1.sq (dps_of xs _ _ h3 q)
  | .ref _, _, _, _, e => by cases e
  | .ty _, _, _, _, e => by cases e
  | .cls _, _, _, _, e => by cases e
  | .scr _, _, _, _, e => by cases e
  | .dic _, _, _, _, e => by cases e
  | .obj _ _, _, _, _, e => by cases e
theorem dps_of {S : Mark} {H : Hp} : ∀ (ds : List D) (vs : List V) (ps : List PyData), Reps K S H vs ds → toPys ds = some ps → DpAll K H vs ps
  | [], _, _, r, e => by cases r; cases e; exact .nil
  | d :: ds, _, _, r, e => by
    cases r with
    | cons a b =>
      unfold toPys at e
      cases q : toPy d with
      | none => rw [q] at e; cases e
      | some p =>
        rw [q] at e
        cases q2 : toPys ds with
        | none => rw [q2] at e; cases e
        | some ps =>
          rw [q2] at e
          cases e
          exact .cons (dp_of d _ _ a q) (dps_of ds _ _ b q2)
end
theorem dpT_of {S : Mark} {H : Hp} {v : V} {d : D} {p : PyData} (r : RepT K S H v d) (e : toPy d = some p) : Dp K H v p := by
  cases r with
  | imm r => exact dp_of d v p r e
  | lst h1 h2 =>
    rename_i a vs ds
    unfold toPy at e
    cases q : toPys ds with
    | none => rw [q] at e; cases e
    | some ps =>
      rw [q] at e
      cases e
      exact .lst (.inl (.inl h1)) (dps_of ds _ _ h2 q)
  | dic h1 h2 => cases e
  | obj h1 h2 => cases e
/-- == of plain values -/
def eqS : D → D → Option Bool
  | .int i, .int j => some (decide (i = j))
  | .str x, .str y => some (decide (x = y))
  | .bl a, .bl b => some (decide (a = b))
  | .non, .non => some true
  | .non, .int _ => some false | .int _, .non => some false
  | .non, .str _ => some false | .str _, .non => some false
  | .non, .bl _ => some false | .bl _, .non => some false
  | .int _, .str _ => some false | .str _, .int _ => some false
  | .bl _, .str _ => some false | .str _, .bl _ => some false
  | _, _ => none
def xorB (n c : Bool) : Bool := match n with
  | true => !c
  | false => c
def eqD (n : Bool) (x y : D) (M : Mem) (Q : DK) : Prop := match eqS x y with
  | some c => Q (.bl (xorB n c)) M
  | none => ∃ a b, toPy x = some a ∧ toPy y = some b ∧ SeqAt.shaped a = true ∧ SeqAt.shaped b = true ∧ Q (.bl (xorB n (PyData.eqv a b))) M
theorem eqS_ok {S : Mark} {H : Hp} {x y : V} {dx dy : D} {c : Bool} (rx : RepT K S H x dx) (ry : RepT K S H y dy) (e : eqS dx dy = some c) : scal x y = true ∧ decide (x = y) = c := by
  cases dx <;> cases dy <;> first
    | (cases e; done)
    | ((first | (cases rx.int_inv) | (cases rx.str_inv) | (cases rx.bl_inv) | (cases rx.non_inv)); (first | (cases ry.int_inv) | (cases ry.str_inv) | (cases ry.bl_inv) | (cases ry.non_inv)); cases e; refine ⟨rfl, ?_⟩; simp)
def rEqA (K : PySem.W.Frag) : R2 := fun x y H Q => rEq x y H Q ∨ rEqD K x y H Q
def rNeA (K : PySem.W.Frag) : R2 := fun x y H Q => rNe x y H Q ∨ rNeD K x y H Q
theorem op_eqA (hu : X.A.units + 64 < cLine) : OpR X (compareOp .Eq) (rEqA X.K) := op_eq.or (op_eqD hu)
theorem op_neA (hu : X.A.units + 64 < cLine) : OpR X (compareOp .NotEq) (rNeA X.K) := op_ne.or (op_neD hu)
theorem sv_eq : SimV2 K (rEqA K) (eqD false) := by
  intro S0 M H x y dx dy Q QD m rx ry h l
  unfold eqD at h
  cases e : eqS dx dy with
  | some c =>
    rw [e] at h
    obtain ⟨h1, h2⟩ := eqS_ok rx ry e
    exact .inl ⟨h1, by rw [h2]; exact l.now m (.bl _) h⟩
  | none =>
    rw [e] at h
    obtain ⟨a, b, e1, e2, s1, s2, q⟩ := h
    exact .inr ⟨a, b, dpT_of rx e1, dpT_of ry e2, s1, s2, l.now m (.bl _) q⟩
theorem sv_ne : SimV2 K (rNeA K) (eqD true) := by
  intro S0 M H x y dx dy Q QD m rx ry h l
  unfold eqD at h
  cases e : eqS dx dy with
  | some c =>
    rw [e] at h
    obtain ⟨h1, h2⟩ := eqS_ok rx ry e
    exact .inl ⟨h1, by rw [h2]; exact l.now m (.bl _) h⟩
  | none =>
    rw [e] at h
    obtain ⟨a, b, e1, e2, s1, s2, q⟩ := h
    exact .inr ⟨a, b, dpT_of rx e1, dpT_of ry e2, s1, s2, l.now m (.bl _) q⟩
end
end OD

/-! OD4: places, slices, displays, built-in calls and methods. -/
namespace OD
open PySem PySem.Spec L2

section
variable {X : Cx} {E : L2.St → XK} {K : PySem.W.Frag}

/-! ### x[i] -/
def ixD : D → D → Mem → DK → Prop
  | .lst xs, .int i, M, Q => ∃ d, atI xs i = some d ∧ Q d M
  | .tup xs, .int i, M, Q => ∃ d, atI xs i = some d ∧ Q d M
  | .str z, .int i, M, Q => z.length ≤ sizeLine ∧ ∃ c, atI z.cps.toList i = some c ∧ Q (.str ⟨#[c]⟩) M
  | .dic kvs, .int i, M, Q => ∃ d, (kvs.find? fun kv => decide (kv.1 = Sum.inl i)).map (·.2) = some d ∧ Q d M
  | .dic kvs, .str x, M, Q => ∃ d, (kvs.find? fun kv => decide (kv.1 = Sum.inr x)).map (·.2) = some d ∧ Q d M
  | _, _, _, _ => False
theorem Reps.atI {S : Mark} {H : Hp} {vs : List V} {ds : List D} (h : Reps K S H vs ds) {i : Int} {d : D} (e : L2.atI ds i = some d) : ∃ v, L2.atI vs i = some v ∧ Rep K S H v d := by
  unfold L2.atI at e ⊢
  rw [h.length]
  cases q : ixN ds.length i with
  | none => rw [q] at e; cases e
  | some j =>
    rw [q] at e
    exact h.get e
theorem dgetR {H : Hp} {a : Addr} {kvs : List (Key × V)} {k : Key} (e : Rd H a (.dK kvs)) : DGet H a (kV k) (valV kvs k) := .inl ⟨kvs, k, e, rfl, rfl⟩
theorem RepsK.val {S : Mark} {H : Hp} {k : Key} {d : D} : ∀ {kvs : List (Key × D)} {ws : List (Key × V)}, RepsK K S H ws kvs → (kvs.find? fun kv => decide (kv.1 = k)).map (·.2) = some d → ∃ v, valV ws k = some v ∧ Rep K S H v d := by
  intro kvs
  induction kvs with
  | nil => intro ws _ e; cases e
  | cons p r ih =>
    intro ws h e
    cases h with
    | cons a b =>
      rename_i k' v' ws' d'
      by_cases z : k' = k
      · rw [List.find?_cons_of_pos (by simpa using z)] at e
        cases e
        exact ⟨v', valV_pos z, a⟩
      · rw [List.find?_cons_of_neg (by simpa using z)] at e
        obtain ⟨v, h1, h2⟩ := ih b e
        exact ⟨v, by rw [valV_neg z]; exact h1, h2⟩
theorem RepsK.valN {S : Mark} {H : Hp} {k : Key} : ∀ {kvs : List (Key × D)} {ws : List (Key × V)}, RepsK K S H ws kvs → (kvs.find? fun kv => decide (kv.1 = k)).map (·.2) = none → valV ws k = none := by
  intro kvs
  induction kvs with
  | nil => intro ws h _; cases h; rfl
  | cons p r ih =>
    intro ws h e
    cases h with
    | cons a b =>
      rename_i k' v' ws' d'
      by_cases z : k' = k
      · rw [List.find?_cons_of_pos (by simpa using z)] at e
        cases e
      · rw [List.find?_cons_of_neg (by simpa using z)] at e
        rw [valV_neg z]
        exact ih b e
def rIxD : R2 := fun x y H Q => ∃ a v, x = .ref a ∧ DGet H a y (some v) ∧ Q v H
theorem ix_dic (hu : X.A.units + 1 < cLine) : IxR X rIxD := by
  intro value slice pins s σ H x y v u Q I rx ry q hs
  obtain ⟨a, w, rfl, g, q⟩ := q
  cases rx
  refine PyProof.Rows.tail_any (dict_typeIs I g) PySem.F.slot_dict_getitem.lookup (d_getItem hu I g ry fun w' s3 I3 rw' => ⟨w, H, I3, rw', q⟩) hs
def rIxA (K : PySem.W.Frag) : R2 := fun x y H Q => rIx K x y H Q ∨ rIxD x y H Q
theorem ix_all (hu : X.A.units + 1 < cLine) : IxR X (rIxA X.K) := ix_seq.or (ix_dic hu)
theorem sv_ix : SimV2 K (rIxA K) ixD := by
  intro S0 M H x y dx dy Q QD m rx ry h l
  cases dx with
  | lst xs =>
    cases dy with
    | int i =>
      obtain ⟨a, vs, rfl, h1, r1⟩ := rx.lst_inv
      cases ry.int_inv
      obtain ⟨d, e, q⟩ := h
      obtain ⟨v, e2, r⟩ := r1.atI e
      exact .inl (.inl ⟨a, vs, i, v, rfl, rfl, .inl (.inl h1), e2, l.now m r q⟩)
    | _ => exact h.elim
  | tup xs =>
    cases dy with
    | int i =>
      obtain ⟨a, vs, rfl, h1, r1⟩ := rx.tup_inv
      cases ry.int_inv
      obtain ⟨d, e, q⟩ := h
      obtain ⟨v, e2, r⟩ := r1.atI e
      exact .inl (.inr (.inl ⟨a, vs, i, v, rfl, rfl, h1, e2, l.now m r q⟩))
    | _ => exact h.elim
  | str z =>
    cases dy with
    | int i =>
      cases rx.str_inv; cases ry.int_inv
      obtain ⟨hz, c, e, q⟩ := h
      exact .inl (.inr (.inr ⟨z, i, c, rfl, rfl, hz, e, l.now m (.str _) q⟩))
    | _ => exact h.elim
  | dic kvs =>
    obtain ⟨a, vs, rfl, h1, r1⟩ := rx.dic_inv
    cases dy with
    | int i =>
      cases ry.int_inv
      obtain ⟨d, e, q⟩ := h
      obtain ⟨v, e2, r⟩ := r1.val e
      exact .inr ⟨a, v, rfl, by rw [← e2]; exact dgetR (k := Sum.inl i) h1, l.now m r q⟩
    | str z =>
      cases ry.str_inv
      obtain ⟨d, e, q⟩ := h
      obtain ⟨v, e2, r⟩ := r1.val e
      exact .inr ⟨a, v, rfl, by rw [← e2]; exact dgetR (k := Sum.inr z) h1, l.now m r q⟩
    | _ => exact h.elim
  | _ => exact h.elim
variable {a b c : Expr} {es : List Expr} {pos : Pos} {da db dc : DE} {dr : DA}
theorem de_ix (hu : X.A.units + 64 < cLine) (ha : DEx X E a da) (hb : DEx X E b db) (hs : PlainIx b := by exact fun _ _ => rfl) : DEx X E (.Subscript a b pos) (dOp ixD da db) := by
  obtain ⟨ta, p1, s1⟩ := ha
  obtain ⟨tb, p2, s2⟩ := hb
  exact ⟨_, pe_ix (ix_all (by omega)) p1 p2 hs, sim_op sv_ix s1 s2⟩

/-! ### x[lo:hi] -/
def cutL {α : Type} (xs : List α) (lo hi : Option Int) : List α := (xs.drop (HT.sIx xs.length 0 lo)).take (HT.sIx xs.length xs.length hi - HT.sIx xs.length 0 lo)
theorem Reps.cut {S : Mark} {H : Hp} {vs : List V} {ds : List D} (h : Reps K S H vs ds) (lo hi : Option Int) : Reps K S H (cutV vs lo hi) (cutL ds lo hi) := by
  unfold cutV cutL
  rw [h.length]
  exact (h.drop _).take _
theorem cutL_map {α β : Type} (f : α → β) (xs : List α) (lo hi : Option Int) : cutL (xs.map f) lo hi = (cutL xs lo hi).map f := by
  unfold cutL
  rw [List.length_map, List.map_take, List.map_drop]
abbrev DO := Slots → Mem → XD → (Option Int → Mem → Prop) → Prop
def SimO (K : PySem.W.Frag) (E : L2.St → XK) (t : TO) (td : DO) : Prop := ∀ (S0 : Mark) (sl : Slots) (M : Mem) (σ : L2.St) (H : Hp) (Q : Option Int → Hp → Prop) (QD : Option Int → Mem → Prop) (ED : XD),
  Ok K S0 sl M σ H → XL K S0 M H (E σ) ED → td sl M ED QD → (∀ b M' H', MemOk K S0 M' H' → Ext M H M' H' → QD b M' → Q b H') → t σ H Q
structure DOx (X : Cx) (E : L2.St → XK) (e : Option Expr) (td : DO) : Prop where
  ex : ∃ t, PO X e t ∧ SimO X.K E t td
def dNoPart : DO := fun _ M _ Q => Q none M
def dPart (t : DE) : DO := fun sl M ED Q => t sl M ED fun x M1 => ∃ i, x = .int i ∧ Q (some i) M1
theorem do_none : DOx X E none dNoPart := ⟨_, po_none, fun S0 sl M σ H Q QD ED k xl hd l => l _ _ _ k.mem (.refl _ _) hd⟩
theorem do_some (h : DEx X E a da) : DOx X E (some a) (dPart da) := by
  obtain ⟨ta, p1, s1⟩ := h
  refine ⟨_, po_some p1, fun S0 sl M σ H Q QD ED k xl hd l => s1 S0 sl M σ H _ _ ED k xl hd fun d1 M1 x H1 m1 x1 r1 q1 => ?_⟩
  obtain ⟨i, e, q⟩ := q1
  subst e
  cases r1
  exact ⟨i, rfl, l _ _ _ m1 x1 q⟩
def slD (o : Bool) : D → Option Int → Option Int → Mem → DK → Prop
  | .lst xs, lo, hi, M, Q => al o (.lst (cutL xs lo hi)) M Q
  | .tup xs, lo, hi, M, Q => Q (.tup (cutL xs lo hi)) M
  | .str z, lo, hi, M, Q => z.length ≤ sizeLine ∧ Q (.str (cutS z lo hi)) M
  | .scr ns, lo, hi, M, Q => al o (.lst ((cutL ns lo hi).map .int)) M Q
  | _, _, _, _, _ => False
def dSl (o : Bool) (da : DE) (dl dh : DO) : DE := fun sl M ED Q => da sl M ED fun x M1 => dl sl M1 ED fun lo M2 => dh sl M2 ED fun hi M3 => vw M3 x fun x' => slD o x' lo hi M3 Q
def rSlAll (K : PySem.W.Frag) : V → Option Int → Option Int → Hp → VK → Prop := fun x lo hi H Q => rSlL K x lo hi H Q ∨ rSlA K x lo hi H Q ∨ rSlS x lo hi H Q
theorem sl_all : SlR X (rSlAll X.K) := sl_list.or (sl_tupA.or sl_str)
theorem de_sl {o : Bool} {lo hi : Option Expr} {p2 : Pos} {dl dh : DO} (ha : DEx X E a da) (hl : DOx X E lo dl) (hh : DOx X E hi dh) : DEx X E (.Subscript a (.Slice lo hi none p2) pos) (dSl o da dl dh) := by
  obtain ⟨ta, p1, s1⟩ := ha
  obtain ⟨tl, p2, s2⟩ := hl
  obtain ⟨th, p3, s3⟩ := hh
  refine ⟨_, pe_slice sl_all p1 p2 p3, fun S0 sl M σ H Q QD ED k xl hd l => ?_⟩
  refine s1 S0 sl M σ H _ _ ED k xl hd fun d1 M1 x H1 m1 x1 r1 q1 => ?_
  refine s2 S0 sl M1 σ H1 _ _ ED (k.ext m1 x1) (xl.ext x1) q1 fun lo M2 H2 m2 x2 q2 => ?_
  have x12 := x1.trans x2
  refine s3 S0 sl M2 σ H2 _ _ ED (k.ext m2 x12) (xl.ext x12) q2 fun hi M3 H3 m3 x3 q3 => ?_
  obtain ⟨w, q, r⟩ := vw_of m3 (r1.ext (x2.trans x3)) q3
  have l' := l.ext (x12.trans x3)
  cases w with
  | lst xs =>
    obtain ⟨a, vs, rfl, h1, r1⟩ := r.lst_inv
    exact .inl ⟨a, vs, rfl, .inl (.inl h1), al_lst m3 (r1.cut lo hi) q l'⟩
  | scr ns =>
    obtain ⟨a, rfl, h1⟩ := r.scr_inv
    refine .inl ⟨a, _, rfl, h1, al_lst m3 ?_ q l'⟩
    have : cutV (ns.map V.int) lo hi = (cutL ns lo hi).map V.int := cutL_map V.int ns lo hi
    rw [this]
    exact .ints _
  | tup xs =>
    obtain ⟨a, vs, rfl, h1, r1⟩ := r.tup_inv
    refine .inr (.inl ⟨a, vs, rfl, h1, fun hw => ?_, fun _ => new_tup m3 (r1.cut lo hi) q l'⟩)
    have : cutL xs lo hi = xs := by
      unfold cutL
      rw [← r1.length, hw.1, hw.2, r1.length]
      simp
    cases r with
    | imm r => exact l'.now m3 r (by rw [← this]; exact q)
  | str z =>
    cases r.str_inv
    exact .inr (.inr ⟨z, rfl, q.1, l'.now m3 (.str _) q.2⟩)
  | _ => exact q.elim

/-! ### arguments, displays -/
def dNil : DA := fun _ M _ Q => Q [] M
def dCons (da : DE) (dr : DA) : DA := fun sl M ED Q => da sl M ED fun x M1 => dr sl M1 ED fun xs M2 => Q (x :: xs) M2
theorem da_nil : DAx X E [] dNil := ⟨_, pa_nil, fun S0 sl M σ H Q QD ED k xl hd l => l _ _ _ _ k.mem (.refl _ _) .nil hd⟩
theorem da_cons (ha : DEx X E a da) (hr : DAx X E es dr) (hs : starEach (a :: es) X.env = (false, eval a X.env) :: starEach es X.env := by rfl) : DAx X E (a :: es) (dCons da dr) := by
  obtain ⟨ta, p1, s1⟩ := ha
  obtain ⟨tr, p2, s2⟩ := hr
  refine ⟨_, pa_cons p1 p2 hs, fun S0 sl M σ H Q QD ED k xl hd l => ?_⟩
  refine s1 S0 sl M σ H _ _ ED k xl hd fun d1 M1 x H1 m1 x1 r1 q1 => ?_
  refine s2 S0 sl M1 σ H1 _ _ ED (k.ext m1 x1) (xl.ext x1) q1 fun ds M2 xs H2 m2 x2 r2 q2 => ?_
  exact l _ _ _ _ m2 (x1.trans x2) (.cons (r1.ext x2) r2) q2
def dTup (dr : DA) : DE := fun sl M ED Q => dr sl M ED fun ds M1 => ds.length ≤ sizeLine ∧ Q (.tup ds) M1
def dLst (o : Bool) (dr : DA) : DE := fun sl M ED Q => dr sl M ED fun ds M1 => ds.length ≤ sizeLine ∧ al o (.lst ds) M1 Q
theorem de_tup {k : Nat} (h : DAx X E es dr) : DEx X E (.Tuple es k pos) (dTup dr) := by
  obtain ⟨tr, p, s⟩ := h
  refine ⟨_, pe_tup p, fun S0 sl M σ H Q QD ED k xl hd l => s S0 sl M σ H _ _ ED k xl hd fun ds M1 vs H1 m1 x1 r1 q1 => ?_⟩
  exact ⟨by rw [r1.length]; exact q1.1, new_tup m1 r1 q1.2 (l.ext x1)⟩
theorem de_lst (o : Bool) (h : DAx X E es dr) : DEx X E (.List es pos) (dLst o dr) := by
  obtain ⟨tr, p, s⟩ := h
  refine ⟨_, pe_lst p, fun S0 sl M σ H Q QD ED k xl hd l => s S0 sl M σ H _ _ ED k xl hd fun ds M1 vs H1 m1 x1 r1 q1 => ?_⟩
  exact ⟨by rw [r1.length]; exact q1.1, al_lst m1 r1 q1.2 (l.ext x1)⟩
def dDic0 (o : Bool) : DE := fun _ M _ Q => al o (.dic []) M Q
theorem de_dic0 (o : Bool) : DEx X E (.Dict [] [] pos) (dDic0 o) := ⟨_, pe_dnewK, fun S0 sl M σ H Q QD ED k xl hd l => al_dic k.mem .nil hd l⟩

/-! ### built-in calls, by values -/
def vws (M : Mem) : List D → (List D → Prop) → Prop
  | [], P => P []
  | d :: ds, P => vw M d fun w => vws M ds fun ws => P (w :: ws)
inductive RepTs (K : PySem.W.Frag) (S : Mark) (H : Hp) : List V → List D → Prop
  | nil : RepTs K S H [] []
  | cons {v : V} {vs : List V} {d : D} {ds : List D} : RepT K S H v d → RepTs K S H vs ds → RepTs K S H (v :: vs) (d :: ds)
theorem vws_of {S0 : Mark} {M : Mem} {H : Hp} (m : MemOk K S0 M H) : ∀ {ds : List D} {vs : List V} {P : List D → Prop}, Reps K (SM S0 M) H vs ds → vws M ds P → ∃ ws, P ws ∧ RepTs K (SM S0 M) H vs ws := by
  intro ds
  induction ds with
  | nil => intro vs P r h; cases r; exact ⟨[], h, .nil⟩
  | cons d ds ih =>
    intro vs P r h
    cases r with
    | cons a b =>
      obtain ⟨w, h1, r1⟩ := vw_of m a h
      obtain ⟨ws, h2, r2⟩ := ih b h1
      exact ⟨w :: ws, h2, .cons r1 r2⟩
abbrev RC := List V → Hp → VK → Prop
abbrev RCD := List D → Mem → DK → Prop
def SimC (K : PySem.W.Frag) (r : RC) (rd : RCD) : Prop := ∀ (S0 : Mark) (M : Mem) (H : Hp) (vs : List V) (ds : List D) (Q : VK) (QD : DK), MemOk K S0 M H → RepTs K (SM S0 M) H vs ds → rd ds M QD → Lk K S0 M H Q QD → r vs H Q
def dCB (rd : RCD) (dr : DA) : DE := fun sl M ED Q => dr sl M ED fun ds M1 => vws M1 ds fun ws => rd ws M1 Q
theorem sim_cb {r : RC} {rd : RCD} {t : TA} {td : DA} (hr : SimC K r rd) (h : SimA K E t td) : SimE K E (tCB r t) (dCB rd td) := by
  intro S0 sl M σ H Q QD ED k xl hd l
  refine h S0 sl M σ H _ _ ED k xl hd fun ds M1 vs H1 m1 x1 r1 q1 => ?_
  obtain ⟨ws, q, r⟩ := vws_of m1 r1 q1
  exact hr S0 M1 H1 vs ws Q QD m1 r q (l.ext x1)
variable {x : Str} {p : Pos} {id T : String} {r : RC} {rd : RCD}
theorem de_callB (hc : CallR X (.builtin id) r) (hs : SimC X.K r rd) (hm : X.mg x = none) (ha : DAx X E (a :: es) dr) (hg : Gl X x := by rfl) (hv : bootBuiltins x = some (.builtin id) := by decide +kernel) (hn : x ≠ "__name__" := by decide) (hdb : (x == ("__debug__" : Str)) = false := by decide)
    (he : starEach (a :: es) X.env = (false, eval a X.env) :: starEach es X.env := by rfl) (hpl : (backTo pos (starEach es X.env)).any (·.1) = false := by rfl) : DEx X E (.Call (.Name x p) (a :: es) [] pos) (dCB rd dr) := by
  obtain ⟨ta, p1, s1⟩ := ha
  exact ⟨_, pe_callB hc hg hm hv p1 hn hdb he hpl, sim_cb hs s1⟩
theorem de_callTy (hc : CallR X (.type T) r) (hs : SimC X.K r rd) (hm : X.mg x = none) (ha : DAx X E (a :: es) dr) (hg : Gl X x := by rfl) (hv : bootBuiltins x = some (.type T) := by decide +kernel) (hn : x ≠ "__name__" := by decide) (hdb : (x == ("__debug__" : Str)) = false := by decide)
    (he : starEach (a :: es) X.env = (false, eval a X.env) :: starEach es X.env := by rfl) (hpl : (backTo pos (starEach es X.env)).any (·.1) = false := by rfl) : DEx X E (.Call (.Name x p) (a :: es) [] pos) (dCB rd dr) := by
  obtain ⟨ta, p1, s1⟩ := ha
  exact ⟨_, pe_callTy hc hg hm hv p1 hn hdb he hpl, sim_cb hs s1⟩

/-! of one argument -/
def oneD (f : D → Mem → DK → Prop) : RCD
  | [d], M, Q => f d M Q
  | _, _, _ => False
theorem sc_one {f : D → Mem → DK → Prop} (h : ∀ (S0 : Mark) (M : Mem) (H : Hp) (v : V) (d : D) (Q : VK) (QD : DK), MemOk K S0 M H → RepT K (SM S0 M) H v d → f d M QD → Lk K S0 M H Q QD → r [v] H Q) : SimC K r (oneD f) := by
  intro S0 M H vs ds Q QD m rs hd l
  cases rs with
  | nil => exact hd.elim
  | cons a b =>
    cases b with
    | nil => exact h S0 M H _ _ Q QD m a hd l
    | cons _ _ => exact hd.elim
def twoD (f : D → D → Mem → DK → Prop) : RCD
  | [d, e], M, Q => f d e M Q
  | _, _, _ => False
theorem sc_two {f : D → D → Mem → DK → Prop} (h : ∀ (S0 : Mark) (M : Mem) (H : Hp) (v w : V) (d e : D) (Q : VK) (QD : DK), MemOk K S0 M H → RepT K (SM S0 M) H v d → RepT K (SM S0 M) H w e → f d e M QD → Lk K S0 M H Q QD → r [v, w] H Q) : SimC K r (twoD f) := by
  intro S0 M H vs ds Q QD m rs hd l
  cases rs with
  | nil => exact hd.elim
  | cons a b =>
    cases b with
    | nil => exact hd.elim
    | cons a2 b =>
      cases b with
      | nil => exact h S0 M H _ _ _ _ Q QD m a a2 hd l
      | cons _ _ => exact hd.elim
/-! len -/
def lenD : RCD := oneD fun d M Q => match d with
  | .lst xs => Q (.int xs.length) M
  | .tup xs => Q (.int xs.length) M
  | .str z => z.length ≤ sizeLine ∧ Q (.int z.length) M
  | .dic kvs => Q (.int kvs.length) M
  | _ => False
def rLenA (K : PySem.W.Frag) : RC := fun xs H Q => (∃ p ys, xs = [.ref p] ∧ (SqL K H p ys ∨ SqT K H p ys) ∧ Q (.int ys.length) H) ∨ (∃ z, xs = [.str z] ∧ z.length ≤ sizeLine ∧ Q (.int z.length) H) ∨ ∃ a kvs, xs = [V.ref a] ∧ Rd H a (.dK kvs) ∧ Q (.int kvs.length) H
theorem call_lenR : CallR X (.builtin "len") (fun xs H Q => ∃ a kvs, xs = [V.ref a] ∧ Rd H a (.dK kvs) ∧ Q (.int kvs.length) H) := by
  intro pins s σ H xs us Q I r h
  obtain ⟨b, ks, rfl, hb, q⟩ := h
  obtain ⟨y, rfl, ry⟩ := vals1 r
  cases ry
  exact d_len I hb fun t s2 I2 => ⟨V.int ks.length, H, I2, ⟨t, rfl⟩, q⟩
theorem call_lenA : CallR X (.builtin "len") (rLenA X.K) := call_len_seq.or (call_len_str.or call_lenR)
theorem RepsK.length {S : Mark} {H : Hp} : ∀ {kvs : List (Key × D)} {ws : List (Key × V)}, RepsK K S H ws kvs → ws.length = kvs.length := by
  intro kvs
  induction kvs with
  | nil => intro ws h; cases h; rfl
  | cons p r ih => intro ws h; cases h with | cons a b => rw [List.length_cons, List.length_cons, ih b]
theorem sc_len : SimC K (rLenA K) lenD := sc_one fun S0 M H v d Q QD m r h l => by
  cases d with
  | lst xs =>
    obtain ⟨a, vs, rfl, h1, r1⟩ := r.lst_inv
    exact .inl ⟨a, vs, rfl, .inl (.inl (.inl h1)), by rw [r1.length]; exact l.now m (.int _) h⟩
  | tup xs =>
    obtain ⟨a, vs, rfl, h1, r1⟩ := r.tup_inv
    exact .inl ⟨a, vs, rfl, .inr h1, by rw [r1.length]; exact l.now m (.int _) h⟩
  | str z =>
    cases r.str_inv
    exact .inr (.inl ⟨z, rfl, h.1, l.now m (.int _) h.2⟩)
  | dic kvs =>
    obtain ⟨a, vs, rfl, h1, r1⟩ := r.dic_inv
    exact .inr (.inr ⟨a, vs, rfl, h1, by rw [r1.length]; exact l.now m (.int _) h⟩)
  | _ => exact h.elim
/-! abs, max, min of two, int, sum, all, any -/
def absD : RCD := oneD fun d M Q => match d with
  | .int i => Q (.int (if i < 0 then -i else i)) M
  | _ => False
theorem sc_abs : SimC K (fun xs H Q => ∃ i, xs = [.int i] ∧ Q (.int (if i < 0 then -i else i)) H) absD := sc_one fun S0 M H v d Q QD m r h l => by
  cases d with
  | int i => cases r.int_inv; exact ⟨i, rfl, l.now m (.int _) h⟩
  | _ => exact h.elim
def max2D : RCD := twoD fun d e M Q => match d, e with
  | .int i, .int j => Q (.int (if j > i then j else i)) M
  | _, _ => False
def min2D : RCD := twoD fun d e M Q => match d, e with
  | .int i, .int j => Q (.int (if j < i then j else i)) M
  | _, _ => False
theorem sc_max2 : SimC K (fun xs H Q => ∃ i j, xs = [.int i, .int j] ∧ Q (.int (if j > i then j else i)) H) max2D := sc_two fun S0 M H v w d e Q QD m r r2 h l => by
  cases d with
  | int i =>
    cases e with
    | int j => cases r.int_inv; cases r2.int_inv; exact ⟨i, j, rfl, l.now m (.int _) h⟩
    | _ => exact h.elim
  | _ => exact h.elim
theorem sc_min2 : SimC K (fun xs H Q => ∃ i j, xs = [.int i, .int j] ∧ Q (.int (if j < i then j else i)) H) min2D := sc_two fun S0 M H v w d e Q QD m r r2 h l => by
  cases d with
  | int i =>
    cases e with
    | int j => cases r.int_inv; cases r2.int_inv; exact ⟨i, j, rfl, l.now m (.int _) h⟩
    | _ => exact h.elim
  | _ => exact h.elim
def maxLD : RCD := oneD fun d M Q => match d with
  | .lst xs => ∃ ns : List Int, xs = ns.map .int ∧ 0 < ns.length ∧ ∀ m, m ∈ ns → (∀ y, y ∈ ns → y ≤ m) → Q (.int m) M
  | _ => False
def minLD : RCD := oneD fun d M Q => match d with
  | .lst xs => ∃ ns : List Int, xs = ns.map .int ∧ 0 < ns.length ∧ ∀ m, m ∈ ns → (∀ y, y ∈ ns → m ≤ y) → Q (.int m) M
  | _ => False
theorem sc_maxL : SimC K (rMax K) maxLD := sc_one fun S0 M H v d Q QD m r h l => by
  cases d with
  | lst xs =>
    obtain ⟨a, vs, rfl, h1, r1⟩ := r.lst_inv
    obtain ⟨ns, rfl, h2, h3⟩ := h
    cases r1.ints_inv
    exact ⟨a, ns, rfl, .inl (.inl h1), h2, fun k e1 e2 => l.now m (.int _) (h3 k e1 e2)⟩
  | _ => exact h.elim
theorem sc_minL : SimC K (rMin K) minLD := sc_one fun S0 M H v d Q QD m r h l => by
  cases d with
  | lst xs =>
    obtain ⟨a, vs, rfl, h1, r1⟩ := r.lst_inv
    obtain ⟨ns, rfl, h2, h3⟩ := h
    cases r1.ints_inv
    exact ⟨a, ns, rfl, .inl (.inl h1), h2, fun k e1 e2 => l.now m (.int _) (h3 k e1 e2)⟩
  | _ => exact h.elim
def intD : RCD := oneD fun d M Q => match d with
  | .int i => Q (.int i) M
  | .bl k => Q (.int (if k then 1 else 0)) M
  | _ => False
theorem sc_int : SimC K (fun xs H Q => (∃ i, xs = [.int i] ∧ Q (.int i) H) ∨ ∃ k, xs = [.bl k] ∧ Q (.int (if k then 1 else 0)) H) intD := sc_one fun S0 M H v d Q QD m r h l => by
  cases d with
  | int i => cases r.int_inv; exact .inl ⟨i, rfl, l.now m (.int _) h⟩
  | bl i => cases r.bl_inv; exact .inr ⟨i, rfl, l.now m (.int _) h⟩
  | _ => exact h.elim
def sumD : RCD := oneD fun d M Q => match d with
  | .lst xs => ∃ ns : List Int, xs = ns.map .int ∧ Q (.int ns.sum) M
  | _ => False
theorem sc_sum : SimC K (rSum K) sumD := sc_one fun S0 M H v d Q QD m r h l => by
  cases d with
  | lst xs =>
    obtain ⟨a, vs, rfl, h1, r1⟩ := r.lst_inv
    obtain ⟨ns, rfl, h3⟩ := h
    cases r1.ints_inv
    exact ⟨a, ns, rfl, .inl (.inl h1), l.now m (.int _) h3⟩
  | _ => exact h.elim
def allD : RCD := oneD fun d M Q => match d with
  | .lst xs => ∃ bs : List Bool, xs = bs.map .bl ∧ Q (.bl (bs.all _root_.id)) M
  | _ => False
theorem sc_all : SimC K (rAll K) allD := sc_one fun S0 M H v d Q QD m r h l => by
  cases d with
  | lst xs =>
    obtain ⟨a, vs, rfl, h1, r1⟩ := r.lst_inv
    obtain ⟨ns, rfl, h3⟩ := h
    cases r1.bls_inv
    exact ⟨a, ns, rfl, .inl (.inl h1), l.now m (.bl _) h3⟩
  | _ => exact h.elim
/-! list(x), tuple(x) -/
def listD (o : Bool) : RCD := oneD fun d M Q => match d with
  | .lst xs => al o (.lst xs) M Q
  | .tup xs => al o (.lst xs) M Q
  | _ => False
def rListA (K : PySem.W.Frag) : RC := fun xs H Q => ∃ p ys, xs = [.ref p] ∧ (SqL K H p ys ∨ SqT K H p ys) ∧ ∀ l, H l = none → Q (.ref l) (upd H l (.lst ys))
theorem sc_list {o : Bool} : SimC K (rListA K) (listD o) := sc_one fun S0 M H v d Q QD m r h l => by
  cases d with
  | lst xs =>
    obtain ⟨a, vs, rfl, h1, r1⟩ := r.lst_inv
    exact ⟨a, vs, rfl, .inl (.inl (.inl h1)), al_lst m r1 h l⟩
  | tup xs =>
    obtain ⟨a, vs, rfl, h1, r1⟩ := r.tup_inv
    exact ⟨a, vs, rfl, .inr h1, al_lst m r1 h l⟩
  | _ => exact h.elim
def tupleD : RCD := oneD fun d M Q => match d with
  | .lst xs => Q (.tup xs) M
  | .tup xs => Q (.tup xs) M
  | _ => False
def rTupleA (K : PySem.W.Frag) : RC := fun xs H Q => ∃ p ys, xs = [.ref p] ∧ ((SqL K H p ys ∧ ∀ l, H l = none → Q (.ref l) (upd H l (.tup ys))) ∨ (SqT K H p ys ∧ Q (.ref p) H))
theorem sc_tuple : SimC K (rTupleA K) tupleD := sc_one fun S0 M H v d Q QD m r h l => by
  cases d with
  | lst xs =>
    obtain ⟨a, vs, rfl, h1, r1⟩ := r.lst_inv
    exact ⟨a, vs, rfl, .inl ⟨.inl (.inl h1), new_tup m r1 h l⟩⟩
  | tup xs =>
    obtain ⟨a, vs, rfl, h1, r1⟩ := r.tup_inv
    cases r with
    | imm r => exact ⟨a, vs, rfl, .inr ⟨h1, l.now m r h⟩⟩
  | _ => exact h.elim
/-! isinstance(x, T), T built in -/
def tyD : D → Option String
  | .non => some "NoneType" | .bl _ => some "bool" | .int _ => some "int" | .str _ => some "str" | .lst _ => some "list" | .tup _ => some "tuple" | .dic _ => some "dict"
  | _ => none
def isiD : RCD := twoD fun d e M Q => match e with
  | .ty n => ∃ t b, tyD d = some t ∧ kitB t n = some b ∧ Q (.bl b) M
  | _ => False
theorem sc_isi : SimC K (rIsi K) isiD := sc_two fun S0 M H v w d e Q QD m r r2 h l => by
  cases e with
  | ty n =>
    cases r2.ty_inv
    obtain ⟨t, b, e, kb, q⟩ := h
    have fin : ∀ (x : V), TyX K H x (.type t) → rIsi K [x, .ty n] H Q := fun x hx => ⟨x, .ty n, .type t, .type n, b, rfl, .ty n, hx, kit_ty kb, l.now m (.bl _) q⟩
    cases d with
    | non => cases e; cases r.non_inv; exact fin _ (.base .non)
    | bl i => cases e; cases r.bl_inv; exact fin _ (.base (.bl _))
    | int i => cases e; cases r.int_inv; exact fin _ (.base (.int _))
    | str i => cases e; cases r.str_inv; exact fin _ (.base (.str _))
    | lst xs => cases e; obtain ⟨a, vs, rfl, h1, r1⟩ := r.lst_inv; exact fin _ (.base (.lst h1))
    | dic xs => cases e; obtain ⟨a, vs, rfl, h1, r1⟩ := r.dic_inv; exact fin _ (h1.elim (fun h1 => .base (.dK h1)) fun ⟨o, h1⟩ => .fDict h1)
    | tup xs =>
      cases e; obtain ⟨a, vs, rfl, h1, r1⟩ := r.tup_inv
      rcases h1 with (h1 | ⟨o, h1⟩) | ⟨o, its, n', h1, h2, _⟩
      · exact fin _ (.base (.tup h1))
      · exact fin _ (.fTuple h1)
      · exact fin _ (.kTuple h1 h2)
    | _ => cases e
  | _ => exact h.elim
end
end OD

/-! OD5: tests, calls of own defs, statements. -/
namespace OD
open PySem PySem.Spec L2

section
variable {X : Cx} {E : L2.St → XK} {K : PySem.W.Frag} {a b c : Expr} {es : List Expr} {pos : Pos} {da db dc : DE} {dr : DA} {ta tb : DT}

/-! ### tests -/
def truD (d : D) (M : Mem) (Q : Bool → Mem → Prop) : Prop := match d with
  | .non => Q false M
  | .bl b => Q b M
  | .int i => Q (i != 0) M
  | .str y => y.length ≤ sizeLine ∧ Q ((y.length : Int) != 0) M
  | .lst xs => Q (!xs.isEmpty) M
  | .tup xs => Q (!xs.isEmpty) M
  | _ => False
def dTru (da : DE) : DT := fun sl M ED Q => da sl M ED fun x M1 => vw M1 x fun w => truD w M1 Q
theorem isEmpty_len {α β : Type} {xs : List α} {ys : List β} (h : xs.length = ys.length) : xs.isEmpty = ys.isEmpty := by
  cases xs <;> cases ys <;> first | rfl | cases h
theorem dt_tru (ha : DEx X E a da) (he : ∀ whole, isTrue a X.env whole = (do let v ← whole; standAt a.pos; holding [v] (truthy v)) := by intro _; rfl) : DTx X E a (dTru da) := by
  obtain ⟨t, p, s⟩ := ha
  refine ⟨_, pt_truth p he, fun S0 sl M σ H Q QD ED k xl hd l => s S0 sl M σ H _ _ ED k xl hd fun d1 M1 x H1 m1 x1 r1 q1 => ?_⟩
  obtain ⟨w, q, r⟩ := vw_of m1 r1 q1
  cases w with
  | non => cases r.non_inv; exact ⟨false, rfl, l _ _ _ m1 x1 q⟩
  | bl b => cases r.bl_inv; exact ⟨b, rfl, l _ _ _ m1 x1 q⟩
  | int i => cases r.int_inv; exact ⟨_, rfl, l _ _ _ m1 x1 q⟩
  | str y => cases r.str_inv; exact ⟨_, ⟨q.1, rfl⟩, l _ _ _ m1 x1 q.2⟩
  | lst xs =>
    obtain ⟨a, vs, rfl, h1, r1⟩ := r.lst_inv
    exact ⟨_, .inl ⟨vs, .inl (.inl h1), rfl⟩, by rw [isEmpty_len r1.length]; exact l _ _ _ m1 x1 q⟩
  | tup xs =>
    obtain ⟨a, vs, rfl, h1, r1⟩ := r.tup_inv
    exact ⟨_, .inr (.inl ⟨vs, h1, rfl⟩), by rw [isEmpty_len r1.length]; exact l _ _ _ m1 x1 q⟩
  | _ => exact q.elim
def dAnd (t u : DT) : DT := fun sl M ED Q => t sl M ED fun c M1 => if c = true then u sl M1 ED Q else Q false M1
def dOr (t u : DT) : DT := fun sl M ED Q => t sl M ED fun c M1 => if c = true then Q true M1 else u sl M1 ED Q
def dNot (t : DT) : DT := fun sl M ED Q => t sl M ED fun c M1 => Q (!c) M1
theorem DWx.dt (h : DWx X E a ta) : DTx X E a ta := by
  obtain ⟨t, p, s⟩ := h
  exact ⟨_, p.pt, s⟩
theorem dw_and1 (h : DTx X E a ta) : DWx X E (.BoolOp .And [a] pos) ta := by
  obtain ⟨t, p, s⟩ := h
  exact ⟨_, pw_and1 p, s⟩
theorem dw_or1 (h : DTx X E a ta) : DWx X E (.BoolOp .Or [a] pos) ta := by
  obtain ⟨t, p, s⟩ := h
  exact ⟨_, pw_or1 p, s⟩
theorem sim_and {t u : TT} (h1 : SimT K E t ta) (h2 : SimT K E u tb) : SimT K E (tAnd t u) (dAnd ta tb) := fun S0 sl M σ H Q QD ED k xl hd l => h1 S0 sl M σ H _ _ ED k xl hd fun c M1 H1 m1 x1 q => by
  cases c with
  | true => rw [if_pos rfl] at q ⊢; exact h2 S0 sl M1 σ H1 Q QD ED (k.ext m1 x1) (xl.ext x1) q fun c M2 H2 m2 x2 q => l c M2 H2 m2 (x1.trans x2) q
  | false => rw [if_neg Bool.false_ne_true] at q ⊢; exact l _ _ _ m1 x1 q
theorem sim_or {t u : TT} (h1 : SimT K E t ta) (h2 : SimT K E u tb) : SimT K E (tOr t u) (dOr ta tb) := fun S0 sl M σ H Q QD ED k xl hd l => h1 S0 sl M σ H _ _ ED k xl hd fun c M1 H1 m1 x1 q => by
  cases c with
  | false => rw [if_neg Bool.false_ne_true] at q ⊢; exact h2 S0 sl M1 σ H1 Q QD ED (k.ext m1 x1) (xl.ext x1) q fun c M2 H2 m2 x2 q => l c M2 H2 m2 (x1.trans x2) q
  | true => rw [if_pos rfl] at q ⊢; exact l _ _ _ m1 x1 q
theorem dw_and (h1 : DTx X E a ta) (h2 : DWx X E (.BoolOp .And (b :: es) pos) tb) : DWx X E (.BoolOp .And (a :: b :: es) pos) (dAnd ta tb) := by
  obtain ⟨t, p, s⟩ := h1
  obtain ⟨u, q, r⟩ := h2
  exact ⟨_, pw_and p q, sim_and s r⟩
theorem dw_or (h1 : DTx X E a ta) (h2 : DWx X E (.BoolOp .Or (b :: es) pos) tb) : DWx X E (.BoolOp .Or (a :: b :: es) pos) (dOr ta tb) := by
  obtain ⟨t, p, s⟩ := h1
  obtain ⟨u, q, r⟩ := h2
  exact ⟨_, pw_or p q, sim_or s r⟩
theorem dt_not (h : DTx X E a ta) : DTx X E (.UnaryOp .Not a pos) (dNot ta) := by
  obtain ⟨t, p, s⟩ := h
  exact ⟨_, pt_not p, fun S0 sl M σ H Q QD ED k xl hd l => s S0 sl M σ H _ _ ED k xl hd fun c M1 H1 m1 x1 q => l _ _ _ m1 x1 q⟩
/-! .. as values: bools -/
def dAndV (t u : DE) : DE := fun sl M ED Q => t sl M ED fun x M1 => ∃ c, x = .bl c ∧ if c = true then u sl M1 ED Q else Q (.bl false) M1
def dOrV (t u : DE) : DE := fun sl M ED Q => t sl M ED fun x M1 => ∃ c, x = .bl c ∧ if c = true then Q (.bl true) M1 else u sl M1 ED Q
def dNotV (t : DE) : DE := fun sl M ED Q => t sl M ED fun x M1 => ∃ c, x = .bl c ∧ Q (.bl (!c)) M1
theorem de_one {op} (h : DEx X E a da) : DEx X E (.BoolOp op [a] pos) da := by
  obtain ⟨t, p, s⟩ := h
  exact ⟨_, pe_one p, s⟩
theorem de_and (h1 : DEx X E a da) (h2 : DEx X E (.BoolOp .And (b :: es) pos) db) : DEx X E (.BoolOp .And (a :: b :: es) pos) (dAndV da db) := by
  obtain ⟨t, p, s⟩ := h1
  obtain ⟨u, q, r⟩ := h2
  refine ⟨_, pe_and p q, fun S0 sl M σ H Q QD ED k xl hd l => s S0 sl M σ H _ _ ED k xl hd fun d1 M1 x H1 m1 x1 r1 q1 => ?_⟩
  obtain ⟨c, rfl, q⟩ := q1
  cases r1
  refine ⟨c, rfl, ?_⟩
  cases c with
  | true => rw [if_pos rfl] at q ⊢; exact r S0 sl M1 σ H1 Q QD ED (k.ext m1 x1) (xl.ext x1) q (l.ext x1)
  | false => rw [if_neg Bool.false_ne_true] at q ⊢; exact l _ _ _ _ m1 x1 (.bl _) q
theorem de_or (h1 : DEx X E a da) (h2 : DEx X E (.BoolOp .Or (b :: es) pos) db) : DEx X E (.BoolOp .Or (a :: b :: es) pos) (dOrV da db) := by
  obtain ⟨t, p, s⟩ := h1
  obtain ⟨u, q, r⟩ := h2
  refine ⟨_, pe_or p q, fun S0 sl M σ H Q QD ED k xl hd l => s S0 sl M σ H _ _ ED k xl hd fun d1 M1 x H1 m1 x1 r1 q1 => ?_⟩
  obtain ⟨c, rfl, q⟩ := q1
  cases r1
  refine ⟨c, rfl, ?_⟩
  cases c with
  | false => rw [if_neg Bool.false_ne_true] at q ⊢; exact r S0 sl M1 σ H1 Q QD ED (k.ext m1 x1) (xl.ext x1) q (l.ext x1)
  | true => rw [if_pos rfl] at q ⊢; exact l _ _ _ _ m1 x1 (.bl _) q
theorem de_not (h : DEx X E a da) : DEx X E (.UnaryOp .Not a pos) (dNotV da) := by
  obtain ⟨t, p, s⟩ := h
  refine ⟨_, pe_not p, fun S0 sl M σ H Q QD ED k xl hd l => s S0 sl M σ H _ _ ED k xl hd fun d1 M1 x H1 m1 x1 r1 q1 => ?_⟩
  obtain ⟨c, rfl, q⟩ := q1
  cases r1
  exact ⟨c, rfl, l _ _ _ _ m1 x1 (.bl _) q⟩
def dIf (t : DT) (da db : DE) : DE := fun sl M ED Q => t sl M ED fun c M1 => if c = true then da sl M1 ED Q else db sl M1 ED Q
theorem de_if (hc : DTx X E c ta) (h1 : DEx X E a da) (h2 : DEx X E b db) : DEx X E (.IfExp c a b pos) (dIf ta da db) := by
  obtain ⟨t, p, s⟩ := hc
  obtain ⟨u, q, r⟩ := h1
  obtain ⟨u2, q2, r2⟩ := h2
  refine ⟨_, pe_ifExp p q q2, fun S0 sl M σ H Q QD ED k xl hd l => s S0 sl M σ H _ _ ED k xl hd fun c M1 H1 m1 x1 q => ?_⟩
  cases c with
  | true => rw [if_pos rfl] at q ⊢; exact r S0 sl M1 σ H1 Q QD ED (k.ext m1 x1) (xl.ext x1) q (l.ext x1)
  | false => rw [if_neg Bool.false_ne_true] at q ⊢; exact r2 S0 sl M1 σ H1 Q QD ED (k.ext m1 x1) (xl.ext x1) q (l.ext x1)
/-- either of two readings -/
def dEither (da db : DE) : DE := fun sl M ED Q => da sl M ED Q ∨ db sl M ED Q
theorem de_either (h1 : DEx X E a da) (h2 : DEx X E a db) : DEx X E a (dEither da db) := by
  obtain ⟨t, p, s⟩ := h1
  obtain ⟨u, q, r⟩ := h2
  refine ⟨fun σ H Q => t σ H Q ∨ u σ H Q, ⟨fun pins st σ H Q I h => h.elim (p.run pins st σ H Q I) (q.run pins st σ H Q I)⟩, fun S0 sl M σ H Q QD ED k xl hd l => ?_⟩
  exact hd.imp (fun z => s S0 sl M σ H Q QD ED k xl z l) (fun z => r S0 sl M σ H Q QD ED k xl z l)
end

/-! ### promises of defs -/
/-- a def over data: its arguments, the owned objects that it is handed, what is wanted of an exception, of the value -/
abbrev FD := List D → Mem → XD → DK → Prop
def Pre (M M' : Mem) : Prop := keys (M'.take M.length) = keys M
def spD (K : PySem.W.Frag) (F : FD) : Sp := fun vs H Q E => ∃ (S0 : Mark) (ds : List D) (M : Mem) (QD : DK) (ED : XD), MemOk K S0 M H ∧ Reps K (SM S0 M) H vs ds ∧ F ds M ED QD ∧
  (∀ (d : D) (M' : Mem) (v : V) (H' : Hp), MemOk K S0 M' H' → Ext M H M' H' → Pre M M' → Rep K (SM S0 M') H' v d → QD d M' → Q v H') ∧
  (∀ (cls : Value) (fs : Option (List (Str × D))) (M' : Mem) (dd : Option Addr) (H' : Hp), MemOk K S0 M' H' → Ext M H M' H' → Pre M M' → XRep K (SM S0 M') H' dd fs → ED cls fs M' → E cls dd H')

def sel (ks : List Nat) (M : Mem) : Mem := ks.filterMap fun k => M[k]?
def putM : List Nat → Mem → Mem → Mem
  | [], M, Mc => M ++ Mc
  | k :: ks, M, e :: Mc => putM ks (M.set k e) Mc
  | _ :: _, M, [] => M

theorem sel_cons (k : Nat) (ks : List Nat) (M : Mem) : sel (k :: ks) M = (match M[k]? with | some e => [e] | none => []) ++ sel ks M := by
  unfold sel
  rw [List.filterMap_cons]
  cases M[k]? <;> rfl
theorem filterMap_eq {α β : Type} {f g : α → Option β} : ∀ {l : List α}, (∀ x ∈ l, f x = g x) → l.filterMap f = l.filterMap g := by
  intro l
  induction l with
  | nil => intro _; rfl
  | cons x l ih =>
    intro h
    rw [List.filterMap_cons, List.filterMap_cons, h x (by simp), ih fun y hy => h y (List.mem_cons_of_mem _ hy)]
theorem sel_at {ks : List Nat} {M : Mem} (h : (sel ks M).length = ks.length) : ∀ k ∈ ks, k < M.length := by
  induction ks with
  | nil => intro k hk; cases hk
  | cons j ks ih =>
    rw [sel_cons] at h
    have hle : (sel ks M).length ≤ ks.length := List.length_filterMap_le _ _
    cases e : M[j]? with
    | none =>
      rw [e] at h
      simp at h
      omega
    | some x =>
      rw [e] at h
      have h2 : (sel ks M).length = ks.length := by simpa using h
      intro k hk
      rcases List.mem_cons.mp hk with rfl | hk
      · exact (List.getElem?_eq_some_iff.mp e).1
      · exact ih h2 k hk
theorem mem_sel {ks : List Nat} {M : Mem} {e : Addr × N} : e ∈ sel ks M ↔ ∃ k ∈ ks, M[k]? = some e := by
  unfold sel
  rw [List.mem_filterMap]
theorem key_ix {M : Mem} (nd : (keys M).Nodup) {i j : Nat} {e f : Addr × N} (a : M[i]? = some e) (b : M[j]? = some f) (h : e.1 = f.1) : i = j := by
  have h1 : (keys M)[i]? = some e.1 := by unfold keys; rw [List.getElem?_map, a]; rfl
  have h2 : (keys M)[j]? = some e.1 := by unfold keys; rw [List.getElem?_map, b, h]; rfl
  obtain ⟨l1, e1⟩ := List.getElem?_eq_some_iff.mp h1
  obtain ⟨l2, e2⟩ := List.getElem?_eq_some_iff.mp h2
  exact (List.getElem_inj nd).mp (e1.trans e2.symm)
theorem nodup_sel {ks : List Nat} {M : Mem} (hk : ks.Nodup) (nd : (keys M).Nodup) : (keys (sel ks M)).Nodup := by
  induction ks with
  | nil => exact List.nodup_nil
  | cons k ks ih =>
    obtain ⟨h1, h2⟩ := List.nodup_cons.mp hk
    rw [sel_cons]
    cases e : M[k]? with
    | none => exact ih h2
    | some x =>
      show (x.1 :: keys (sel ks M)).Nodup
      refine List.nodup_cons.mpr ⟨fun hm => ?_, ih h2⟩
      obtain ⟨y, hy, ey⟩ := List.mem_map.mp hm
      obtain ⟨j, hj, ej⟩ := mem_sel.mp hy
      exact h1 (key_ix nd e ej ey.symm ▸ hj)
/-- what is put back: keys -/
theorem keys_put : ∀ {ks : List Nat} {M Mc : Mem}, ks.Nodup → (sel ks M).length = ks.length → keys (Mc.take ks.length) = keys (sel ks M) → keys (putM ks M Mc) = keys M ++ keys (Mc.drop ks.length) := by
  intro ks
  induction ks with
  | nil => intro M Mc _ _ _; show keys (M ++ Mc) = _; rw [keys_append]; rfl
  | cons k ks ih =>
    intro M Mc hk hl he
    obtain ⟨h1, h2⟩ := List.nodup_cons.mp hk
    have hlt := sel_at hl k (by simp)
    have ek : M[k]? = some M[k] := List.getElem?_eq_getElem hlt
    rw [sel_cons, ek] at hl he
    have hl2 : (sel ks M).length = ks.length := by simpa using hl
    cases Mc with
    | nil => cases he
    | cons e Mc =>
      have he' : e.1 :: keys (Mc.take ks.length) = M[k].1 :: keys (sel ks M) := he
      obtain ⟨q1, q2⟩ := List.cons.inj he'
      have ks_same : sel ks (M.set k e) = sel ks M := by
        unfold sel
        refine filterMap_eq fun j hj => ?_
        rw [List.getElem?_set_ne]
        intro z; subst z; exact h1 hj
      have kset : keys (M.set k e) = keys M := by
        have := keys_set (M := M) (k := k) (p := M[k].1) (n := M[k].2) (n' := e.2) ek
        rw [← this]
        unfold keys
        rw [show ((M[k].1, e.2) : Addr × N) = e from by rw [← q1]]
      show keys (putM ks (M.set k e) Mc) = keys M ++ keys (Mc.drop ks.length)
      rw [ih h2 (by rw [ks_same]; exact hl2) (by rw [ks_same]; exact q2), kset]
theorem mem_put : ∀ {ks : List Nat} {M Mc : Mem} {e : Addr × N}, (sel ks M).length = ks.length → ks.length ≤ Mc.length → e ∈ putM ks M Mc → e ∈ Mc ∨ ∃ k, k ∉ ks ∧ M[k]? = some e := by
  intro ks
  induction ks with
  | nil =>
    intro M Mc e _ _ h
    rcases List.mem_append.mp h with h | h
    · obtain ⟨k, hk⟩ := List.getElem?_of_mem h
      exact .inr ⟨k, by simp, hk⟩
    · exact .inl h
  | cons k ks ih =>
    intro M Mc e hl hc h
    cases Mc with
    | nil => simp at hc
    | cons f Mc =>
      have hlt := sel_at hl k (by simp)
      have hl2 : (sel ks (M.set k f)).length = ks.length := by
        have hall := sel_at hl
        unfold sel
        have : ∀ (l : List Nat), (∀ j ∈ l, j < M.length) → (l.filterMap fun j => (M.set k f)[j]?).length = l.length := by
          intro l
          induction l with
          | nil => intro _; rfl
          | cons j l ih =>
            intro hj
            have : j < (M.set k f).length := by rw [List.length_set]; exact hj j (by simp)
            rw [List.filterMap_cons, List.getElem?_eq_getElem this]
            show _ + 1 = _ + 1
            rw [ih fun x hx => hj x (List.mem_cons_of_mem _ hx)]
        exact this ks fun j hj => hall j (List.mem_cons_of_mem _ hj)
      rcases ih hl2 (by simpa using hc) h with h | ⟨j, hj, ej⟩
      · exact .inl (List.mem_cons_of_mem _ h)
      · by_cases z : k = j
        · subst z
          rw [List.getElem?_set_self hlt] at ej
          cases ej
          exact .inl (by simp)
        · rw [List.getElem?_set_ne z] at ej
          exact .inr ⟨j, by simp [hj, Ne.symm z], ej⟩
section
variable {K : PySem.W.Frag} {S0 : Mark} {M M' : Mem} {H H' : Hp} {ks : List Nat}
/-- the callee's mark -/
def mk0 (S0 : Mark) (ks : List Nat) (M : Mem) : Mark := fun a => SM S0 M a ∧ a ∉ keys (sel ks M)
theorem sub_keys : ∀ a, a ∈ keys (sel ks M) → a ∈ keys M := fun a h => by
  obtain ⟨e, he, rfl⟩ := List.mem_map.mp h
  obtain ⟨k, _, ek⟩ := mem_sel.mp he
  exact List.mem_map.mpr ⟨e, List.mem_of_getElem? ek, rfl⟩
theorem mk0_sm : SM (mk0 S0 ks M) (sel ks M) = SM S0 M := by
  funext a
  refine propext ⟨fun h => ?_, fun h => ?_⟩
  · rcases h with h | h
    · exact h.1
    · exact .inr (sub_keys a h)
  · by_cases z : a ∈ keys (sel ks M)
    · exact .inr z
    · exact .inl ⟨h, z⟩
theorem MemOk.sel (m : MemOk K S0 M H) (hk : ks.Nodup) : MemOk K (mk0 S0 ks M) (OD.sel ks M) H :=
  ⟨nodup_sel hk m.nd, fun e he => by
    rw [mk0_sm]
    obtain ⟨k, _, ek⟩ := mem_sel.mp he
    exact m.at_ e (List.mem_of_getElem? ek), fun a h => m.tracked a h.1, fun a h z => z.2 h⟩
theorem put_back (m : MemOk K S0 M H) (hk : ks.Nodup) (hl : (OD.sel ks M).length = ks.length) (m' : MemOk K (mk0 S0 ks M) M' H') (x : Ext (OD.sel ks M) H M' H') (pr : Pre (OD.sel ks M) M') :
    MemOk K S0 (putM ks M M') H' ∧ Ext M H (putM ks M M') H' ∧ SM S0 (putM ks M M') = SM (mk0 S0 ks M) M' := by
  unfold Pre at pr
  rw [hl] at pr
  have hc : ks.length ≤ M'.length := by
    have := congrArg List.length pr
    unfold keys at this
    rw [List.length_map, List.length_map, List.length_take, hl] at this
    omega
  have kp := keys_put hk hl pr
  have kM' : keys M' = keys (OD.sel ks M) ++ keys (M'.drop ks.length) := by
    rw [← pr, ← keys_append, List.take_append_drop]
  have nd' := m'.nd
  rw [kM'] at nd'
  have hnew : ∀ a ∈ keys (M'.drop ks.length), H a = none := fun a ha => by
    rcases x.new a (by rw [kM']; exact List.mem_append_right _ ha) with h | h
    · exact absurd rfl ((List.nodup_append.mp nd').2.2 a h a ha)
    · exact h
  have sm : SM S0 (putM ks M M') = SM (mk0 S0 ks M) M' := by
    funext a
    refine propext ⟨fun h => ?_, fun h => ?_⟩
    · by_cases z : a ∈ keys (OD.sel ks M)
      · exact .inr (by rw [kM']; exact List.mem_append_left _ z)
      · rcases h with h | h
        · exact .inl ⟨.inl h, z⟩
        · rw [kp] at h
          rcases List.mem_append.mp h with h | h
          · exact .inl ⟨.inr h, z⟩
          · exact .inr (by rw [kM']; exact List.mem_append_right _ h)
    · rcases h with h | h
      · rcases h.1 with h | h
        · exact .inl h
        · exact .inr (by rw [kp]; exact List.mem_append_left _ h)
      · rw [kM'] at h
        rcases List.mem_append.mp h with h | h
        · exact .inr (by rw [kp]; exact List.mem_append_left _ (sub_keys a h))
        · exact .inr (by rw [kp]; exact List.mem_append_right _ h)
  have ext : Ext M H (putM ks M M') H' := ⟨fun b o e n => x.keep b o e fun z => n (sub_keys b z), fun b hb => by
    rw [kp] at hb
    rcases List.mem_append.mp hb with h | h
    · exact .inl h
    · exact .inr (hnew b h), x.trk⟩
  refine ⟨⟨?_, fun e he => ?_, fun a h => x.trk a (m.trk a h), fun a ha z => ?_⟩, ext, sm⟩
  · rw [kp]
    refine List.nodup_append.mpr ⟨m.nd, (List.nodup_append.mp nd').2.1, fun a ha b hb q => ?_⟩
    subst q
    exact m.tracked a (.inr ha) (hnew a hb)
  · rw [sm]
    rcases mem_put hl hc he with h | ⟨k, hk', ek⟩
    · exact m'.at_ e h
    · rw [← sm]
      have hm := List.mem_of_getElem? ek
      refine (m.at_ e hm).mono ext.kp ?_
      have ne : e.1 ∉ keys (OD.sel ks M) := fun z => by
        obtain ⟨f, hf, ef⟩ := List.mem_map.mp z
        obtain ⟨j, hj, ej⟩ := mem_sel.mp hf
        exact hk' (key_ix m.nd ej ek ef ▸ hj)
      cases q : H e.1 with
      | none => exact absurd q (m.at_ e hm).some
      | some o => exact x.keep e.1 o q ne
  · rw [kp] at ha
    rcases List.mem_append.mp ha with h | h
    · exact m.dis a h z
    · exact m.trk a z (hnew a h)
end

/-! ### a call of an own def -/
def dCall (F : FD) (ks : List Nat) (dr : DA) : DE := fun sl M ED Q => dr sl M ED fun ds M1 => (sel ks M1).length = ks.length ∧ F ds (sel ks M1) (fun c fs Mc => ED c fs (putM ks M1 Mc)) fun d Mc => Q d (putM ks M1 Mc)
section
variable {X : Cx} {E : L2.St → XK} {K : PySem.W.Frag} {a : Expr} {es : List Expr} {pos p : Pos} {dr : DA} {F : FD} {ks : List Nat} {x : Str} {f : Addr} {fd : FuncData} {ps : List Str} {k : Nat} {CXf : CXT}
theorem sim_call {t : TA} (hk : ks.Nodup) (s : SimA K E t dr) : SimE K E (fun σ H Q => t σ H fun vs H1 => spD K F vs H1 Q (E σ)) (dCall F ks dr) := by
  intro S0 sl M σ H Q QD ED k xl hd l
  refine s S0 sl M σ H _ _ ED k xl hd fun ds M1 vs H1 m1 x1 r1 q1 => ?_
  obtain ⟨hl, q⟩ := q1
  refine ⟨mk0 S0 ks M1, ds, sel ks M1, _, _, m1.sel hk, by rw [mk0_sm]; exact r1, q, fun d M' v H' m' x' pr r' q' => ?_, fun cls fs M' dd H' m' x' pr r' q' => ?_⟩
  · obtain ⟨g1, g2, g3⟩ := put_back m1 hk hl m' x' pr
    exact l d _ v H' g1 (x1.trans g2) (by rw [g3]; exact r') q'
  · obtain ⟨g1, g2, g3⟩ := put_back m1 hk hl m' x' pr
    exact xl cls fs _ dd H' g1 (x1.trans g2) (by rw [g3]; exact r') q'
/-- .. of a def that lets nothing out -/
def dCall0 (F : FD) (ks : List Nat) (dr : DA) : DE := fun sl M ED Q => dr sl M ED fun ds M1 => (sel ks M1).length = ks.length ∧ F ds (sel ks M1) (fun _ _ _ => False) fun d Mc => Q d (putM ks M1 Mc)
theorem sim_call0 {t : TA} (hk : ks.Nodup) (s : SimA K E t dr) : SimE K E (tCall (spD K F) [] E0 t) (dCall0 F ks dr) := by
  intro S0 sl M σ H Q QD ED k xl hd l
  refine s S0 sl M σ H _ _ ED k xl hd fun ds M1 vs H1 m1 x1 r1 q1 => ?_
  obtain ⟨hl, q⟩ := q1
  rw [List.append_nil]
  refine ⟨mk0 S0 ks M1, ds, sel ks M1, _, _, m1.sel hk, by rw [mk0_sm]; exact r1, q, fun d M' v H' m' x' pr r' q' => ?_, fun cls fs M' dd H' m' x' pr r' q' => q'.elim⟩
  obtain ⟨g1, g2, g3⟩ := put_back m1 hk hl m' x' pr
  exact l d _ v H' g1 (x1.trans g2) (by rw [g3]; exact r') q'
/-- f(e, ..), f a def that lets nothing out -/
theorem de_call (F' : FnOk X.prog X.w X.K X.mg X.base CX0 k f fd ps (spD X.K F)) (hr : Room k X.A) (hm : X.mg x = some (.ref f)) (hkp : PySem.W.keepIn X.K (.ref f) = true) (hb : Binds X.K fd ps []) (ks : List Nat) (ha : DAx X E (a :: es) dr) (hk : ks.Nodup := by decide) (hg : Gl X x := by rfl)
    (hdb : (x == ("__debug__" : Str)) = false := by decide) (he : starEach (a :: es) X.env = (false, eval a X.env) :: starEach es X.env := by rfl) (hpl : (backTo pos (starEach es X.env)).any (·.1) = false := by rfl) :
    DEx X E (.Call (.Name x p) (a :: es) [] pos) (dCall0 F ks dr) := by
  obtain ⟨t, pa, s⟩ := ha
  exact ⟨_, pe_call F' hr hg hm hkp hb .nil pass0 pa hdb he hpl, sim_call0 hk s⟩
theorem de_call0 (F' : FnOk X.prog X.w X.K X.mg X.base CX0 k f fd ps (spD X.K F)) (hr : Room k X.A) (hm : X.mg x = some (.ref f)) (hkp : PySem.W.keepIn X.K (.ref f) = true) (hb : Binds X.K fd ps []) (ks : List Nat) (hk : ks.Nodup := by decide) (hg : Gl X x := by rfl)
    (hdb : (x == ("__debug__" : Str)) = false := by decide) :
    DEx X E (.Call (.Name x p) [] [] pos) (dCall0 F ks dNil) :=
  ⟨_, pe_call0 F' hr hg hm hkp hb .nil pass0 hdb, sim_call0 hk fun S0 sl M σ H Q QD ED k xl hd l => l _ _ _ _ k.mem (.refl _ _) .nil hd⟩
end
end OD

/-! OD6: statements, loops, comprehensions, methods, defs. -/
namespace OD
open PySem PySem.Spec L2

structure DEnds where
  nx : Slots → Mem → Prop
  rt : DK
  bk : Slots → Mem → Prop := fun _ _ => False
  ct : Slots → Mem → Prop := fun _ _ => False
  ex : Slots → XD := fun _ _ _ _ => False
abbrev DS := DEnds → Slots → Mem → Prop
structure LkS (K : PySem.W.Frag) (S0 : Mark) (M : Mem) (H : Hp) (Dd : DEnds) (Dn : Ends) (E : L2.St → XK) : Prop where
  nx : ∀ sl' M' σ' H', Ok K S0 sl' M' σ' H' → Ext M H M' H' → Dd.nx sl' M' → Dn.nx σ' H'
  rt : Lk K S0 M H Dn.rt Dd.rt
  bk : ∀ sl' M' σ' H', Ok K S0 sl' M' σ' H' → Ext M H M' H' → Dd.bk sl' M' → Dn.bk σ' H'
  ct : ∀ sl' M' σ' H', Ok K S0 sl' M' σ' H' → Ext M H M' H' → Dd.ct sl' M' → Dn.ct σ' H'
  ex : ∀ sl' M' σ' H', Ok K S0 sl' M' σ' H' → Ext M H M' H' → XL K S0 M' H' (E σ') (Dd.ex sl')
section
variable {K : PySem.W.Frag} {S0 : Mark} {M M1 : Mem} {H H1 : Hp} {Dd : DEnds} {Dn : Ends} {E : L2.St → XK} {sl : Slots} {σ : L2.St}
theorem LkS.ext (l : LkS K S0 M H Dd Dn E) (x : Ext M H M1 H1) : LkS K S0 M1 H1 Dd Dn E :=
  ⟨fun a b c d k y => l.nx a b c d k (x.trans y), l.rt.ext x, fun a b c d k y => l.bk a b c d k (x.trans y), fun a b c d k y => l.ct a b c d k (x.trans y), fun a b c d k y => l.ex a b c d k (x.trans y)⟩
theorem LkS.xl (l : LkS K S0 M H Dd Dn E) (k : Ok K S0 sl M σ H) : XL K S0 M H (E σ) (Dd.ex sl) := l.ex sl M σ H k (.refl _ _)
end
def SimS (K : PySem.W.Frag) (E : L2.St → XK) (t : TS) (td : DS) : Prop := ∀ (S0 : Mark) (sl : Slots) (M : Mem) (σ : L2.St) (H : Hp) (Dd : DEnds) (Dn : Ends),
  Ok K S0 sl M σ H → LkS K S0 M H Dd Dn E → td Dd sl M → t Dn σ H
structure DSx (X : Cx) (E : L2.St → XK) (st : Stmt) (td : DS) : Prop where
  ex : ∃ t, PS X st t ∧ SimS X.K E t td
structure DBx (X : Cx) (E : L2.St → XK) (st : List Stmt) (td : DS) : Prop where
  ex : ∃ t, PSs X st t ∧ SimS X.K E t td

section
variable {X : Cx} {E : L2.St → XK} {K : PySem.W.Frag} {a b c : Expr} {es : List Expr} {pos : Pos} {da db dc : DE} {dr : DA} {dt : DT} {st : Stmt} {sts sts2 : List Stmt} {td ud : DS}

/-! ### blocks -/
def dNext : DS := fun Dd sl M => Dd.nx sl M
def dSeq (t u : DS) : DS := fun Dd sl M => t { Dd with nx := u Dd } sl M
theorem db_nil : DBx X E [] dNext := ⟨_, pss_nil, fun S0 sl M σ H Dd Dn k l h => l.nx sl M σ H k (.refl _ _) h⟩
theorem db_one (h : DSx X E st td) : DBx X E [st] td := by
  obtain ⟨t, p, s⟩ := h
  exact ⟨_, pss_one p, s⟩
theorem db_cons (h : DSx X E st td) (h2 : DBx X E sts ud) : DBx X E (st :: sts) (dSeq td ud) := by
  obtain ⟨t, p, s⟩ := h
  obtain ⟨u, q, r⟩ := h2
  refine ⟨_, pss_cons p q, fun S0 sl M σ H Dd Dn k l h => s S0 sl M σ H { Dd with nx := ud Dd } _ k ⟨fun sl' M' σ' H' k' x' h' => ?_, l.rt, l.bk, l.ct, l.ex⟩ h⟩
  exact r S0 sl' M' σ' H' Dd Dn k' (l.ext x') h'
theorem ds_pass : DSx X E (.Pass pos) dNext := ⟨_, ps_pass, fun S0 sl M σ H Dd Dn k l h => l.nx sl M σ H k (.refl _ _) h⟩
theorem ds_doc {x j pos'} : DSx X E (.Expr (.Constant (.str x) j pos) pos') dNext := ⟨_, ps_doc, fun S0 sl M σ H Dd Dn k l h => l.nx sl M σ H k (.refl _ _) h⟩
def dBreak : DS := fun Dd sl M => Dd.bk sl M
def dCont : DS := fun Dd sl M => Dd.ct sl M
theorem ds_break : DSx X E (.Break pos) dBreak := ⟨_, ps_break, fun S0 sl M σ H Dd Dn k l h => l.bk sl M σ H k (.refl _ _) h⟩
theorem ds_cont : DSx X E (.Continue pos) dCont := ⟨_, ps_continue, fun S0 sl M σ H Dd Dn k l h => l.ct sl M σ H k (.refl _ _) h⟩
def dNever : DS := fun _ _ _ => False
theorem ds_never : DSx X E st dNever := ⟨_, ps_never, fun S0 sl M σ H Dd Dn k l h => h.elim⟩
theorem db_never : DBx X E sts dNever := ⟨_, pss_never, fun S0 sl M σ H Dd Dn k l h => h.elim⟩
def dDrop (da : DE) : DS := fun Dd sl M => da sl M (Dd.ex sl) fun _ M1 => Dd.nx sl M1
theorem ds_expr (h : DEx X E a da) (hs : swapsWith a none pos.line X.env = pure false := by rfl) : DSx X E (.Expr a pos) (dDrop da) := by
  obtain ⟨t, p, s⟩ := h
  exact ⟨_, ps_expr p hs, fun S0 sl M σ H Dd Dn k l h => s S0 sl M σ H _ _ _ k (l.xl k) h fun d M' v H' m x r q => l.nx sl M' σ H' (k.ext m x) x q⟩
/-- return: fz: an owned object that is handed back as data -/
def frzD (fz : Bool) (d : D) (M : Mem) (Q : DK) : Prop := match fz with
  | true => match d with
    | .ref p => ∃ (k : Nat) (n : N), M[k]? = some (p, n) ∧ Q (n.toD p) (M.eraseIdx k)
    | d => Q d M
  | false => Q d M
theorem frz_key {M : Mem} {k : Nat} {p : Addr} {n : N} (nd : (keys M).Nodup) (e : M[k]? = some (p, n)) : p ∉ keys (M.eraseIdx k) := fun z => by
  obtain ⟨f, hf, ef⟩ := List.mem_map.mp z
  obtain ⟨j, ej⟩ := List.getElem?_of_mem hf
  rw [List.getElem?_eraseIdx] at ej
  by_cases h : j < k
  · rw [if_pos h] at ej
    have := key_ix nd ej e ef
    omega
  · rw [if_neg h] at ej
    have := key_ix nd ej e ef
    omega
theorem keys_erase {M : Mem} {k : Nat} : ∀ a, a ∈ keys (M.eraseIdx k) → a ∈ keys M := fun a h => by
  obtain ⟨f, hf, ef⟩ := List.mem_map.mp h
  exact List.mem_map.mpr ⟨f, List.mem_of_mem_eraseIdx hf, ef⟩
theorem keys_eraseIdx : ∀ (M : Mem) (k : Nat), keys (M.eraseIdx k) = (keys M).eraseIdx k
  | [], _ => rfl
  | _ :: _, 0 => rfl
  | e :: M, k + 1 => by
    show e.1 :: keys (M.eraseIdx k) = e.1 :: (keys M).eraseIdx k
    rw [keys_eraseIdx M k]
theorem kp_write {S0 : Mark} {M : Mem} {H : Hp} {k : Nat} {p : Addr} {n : N} (e : M[k]? = some (p, n)) (o : HO) : Kp (SM S0 M) H (SM S0 M) (upd H p o) := by
  have := (Ext.write (H := H) (n' := n) (o := o) e).kp (S0 := S0)
  rwa [SM_keys (keys_set e)] at this
/-- the k-th owned object is not owned any more -/
theorem frz_ok {S0 : Mark} {M : Mem} {H : Hp} {k : Nat} {p : Addr} {n : N} (m : MemOk K S0 M H) (e : M[k]? = some (p, n)) :
    MemOk K S0 (M.eraseIdx k) H ∧ Ext M H (M.eraseIdx k) H ∧ Rep K (SM S0 (M.eraseIdx k)) H (.ref p) (n.toD p) := by
  have x : Ext M H (M.eraseIdx k) H := ⟨fun _ _ e _ => e, fun b hb => .inl (keys_erase b hb), fun _ h => h⟩
  have kp : Kp (SM S0 M) H (SM S0 (M.eraseIdx k)) H := x.kp
  have np : ¬ SM S0 (M.eraseIdx k) p := fun z => z.elim (m.dis p (mem_keys_of e)) (frz_key m.nd e)
  refine ⟨⟨?_, fun f hf => (m.at_ f (List.mem_of_mem_eraseIdx hf)).mono kp rfl, m.trk, fun a h => m.dis a (keys_erase a h)⟩, x, ?_⟩
  · rw [keys_eraseIdx]
    exact m.nd.sublist (List.eraseIdx_sublist _ _)
  · have g := m.at_ _ (List.mem_of_getElem? e)
    cases n with
    | lst ds => obtain ⟨vs, h1, h2⟩ := g; exact .lst np h1 (Reps.mono kp _ _ h2)
    | dic ds => obtain ⟨vs, h1, h2⟩ := g; exact .dic np (.inl h1) (RepsK.mono kp _ _ h2)
    | lok od ws ds => obtain ⟨h1, h2⟩ := g; exact .dic np (.inr ⟨od, h1⟩) (RepsK.mono kp _ _ h2)
    | ins C dx ds => obtain ⟨vs, h1, h2⟩ := g; exact .obj np h1 (RepsF.mono kp _ _ h2)
    | dct ds => exact .cls _
theorem frzD_ok {S0 : Mark} {M : Mem} {H : Hp} {fz : Bool} {d : D} {v : V} {QD : DK} {Q : VK} (m : MemOk K S0 M H) (r : Rep K (SM S0 M) H v d) (h : frzD fz d M QD) (l : Lk K S0 M H Q QD) : Q v H := by
  cases fz with
  | false => exact l.now m r h
  | true =>
    cases d with
    | ref p =>
      obtain ⟨k, n, e, q⟩ := h
      obtain ⟨g1, g2, g3⟩ := frz_ok m e
      cases r
      exact l _ _ _ _ g1 g2 g3 q
    | _ => exact l.now m r h
def dRet (fz : Bool) (da : DE) : DS := fun Dd sl M => da sl M (Dd.ex sl) fun d M1 => frzD fz d M1 Dd.rt
theorem ds_ret (fz : Bool) (h : DEx X E a da) : DSx X E (.Return (some a) pos) (dRet fz da) := by
  obtain ⟨t, p, s⟩ := h
  exact ⟨_, ps_ret p, fun S0 sl M σ H Dd Dn k l h => s S0 sl M σ H _ _ _ k (l.xl k) h fun d M' v H' m x r q => frzD_ok m r q (l.rt.ext x)⟩
def dRetN : DS := fun Dd _ M => Dd.rt .non M
theorem ds_retN : DSx X E (.Return none pos) dRetN := ⟨_, ps_retN, fun S0 sl M σ H Dd Dn k l h => l.rt.now k.mem .non h⟩
def dIfS (t : DT) (u w : DS) : DS := fun Dd sl M => t sl M (Dd.ex sl) fun c M1 => if c = true then u Dd sl M1 else w Dd sl M1
theorem ds_if (hc : DTx X E c dt) (h1 : DBx X E sts td) (h2 : DBx X E sts2 ud) : DSx X E (.If c sts sts2 pos) (dIfS dt td ud) := by
  obtain ⟨t, p, s⟩ := hc
  obtain ⟨u, q, r⟩ := h1
  obtain ⟨u2, q2, r2⟩ := h2
  refine ⟨_, ps_if p q q2, fun S0 sl M σ H Dd Dn k l h => s S0 sl M σ H _ _ _ k (l.xl k) h fun c M1 H1 m1 x1 q => ?_⟩
  cases c with
  | true => rw [if_pos rfl] at q ⊢; exact r S0 sl M1 σ H1 Dd Dn (k.ext m1 x1) (l.ext x1) q
  | false => rw [if_neg Bool.false_ne_true] at q ⊢; exact r2 S0 sl M1 σ H1 Dd Dn (k.ext m1 x1) (l.ext x1) q
/-- ahead of a block: what slot i holds is data from here on -/
def dFrz (i : Nat) (td : DS) : DS := fun Dd sl M => ∃ (p : Addr) (k : Nat) (n : N), sl[i]? = some (some (.ref p)) ∧ M[k]? = some (p, n) ∧ td Dd (sl.set i (some (n.toD p))) (M.eraseIdx k)
theorem db_frz (i : Nat) (h : DBx X E sts td) : DBx X E sts (dFrz i td) := by
  obtain ⟨t, p, s⟩ := h
  refine ⟨t, p, fun S0 sl M σ H Dd Dn k l h => ?_⟩
  obtain ⟨p, j, n, e1, e2, q⟩ := h
  obtain ⟨g1, g2, g3⟩ := frz_ok k.mem e2
  refine s S0 _ _ σ H Dd Dn ⟨by rw [List.length_set, k.len], fun i' d hd => ?_, g1⟩ (l.ext g2) q
  by_cases z : i = i'
  · subst z
    have hl : i < sl.length := (List.getElem?_eq_some_iff.mp e1).1
    rw [List.getElem?_set_self hl] at hd
    cases hd
    obtain ⟨v, h1, h2⟩ := k.sl i _ e1
    cases h2
    exact ⟨_, h1, g3⟩
  · rw [List.getElem?_set_ne z] at hd
    obtain ⟨v, h1, h2⟩ := k.sl i' d hd
    exact ⟨v, h1, h2.ext g2⟩

/-! ### targets -/
abbrev DG := D → Slots → Mem → (Slots → Mem → Prop) → Prop
abbrev DGs := List D → Slots → Mem → (Slots → Mem → Prop) → Prop
def SimG (K : PySem.W.Frag) (t : TG) (td : DG) : Prop := ∀ (S0 : Mark) (sl : Slots) (M : Mem) (σ : L2.St) (H : Hp) (v : V) (d : D) (Q : L2.St → Hp → Prop) (QD : Slots → Mem → Prop),
  Ok K S0 sl M σ H → Rep K (SM S0 M) H v d → td d sl M QD → (∀ sl' M' σ' H', Ok K S0 sl' M' σ' H' → Ext M H M' H' → QD sl' M' → Q σ' H') → t v σ H Q
def SimGs (K : PySem.W.Frag) (t : TGs) (td : DGs) : Prop := ∀ (S0 : Mark) (sl : Slots) (M : Mem) (σ : L2.St) (H : Hp) (v : List V) (d : List D) (Q : L2.St → Hp → Prop) (QD : Slots → Mem → Prop),
  Ok K S0 sl M σ H → Reps K (SM S0 M) H v d → td d sl M QD → (∀ sl' M' σ' H', Ok K S0 sl' M' σ' H' → Ext M H M' H' → QD sl' M' → Q σ' H') → t v σ H Q
structure DGx (X : Cx) (e : Expr) (td : DG) : Prop where
  ex : ∃ t, PG X e t ∧ SimG X.K t td
structure DGsx (X : Cx) (es : List Expr) (td : DGs) : Prop where
  ex : ∃ t, PGs X es t ∧ SimGs X.K t td
def dName (i : Nat) : DG := fun d sl M Q => Q (sl.set i (some d)) M
theorem sim_name {i : Nat} : SimG K (gName i) (dName i) := fun S0 sl M σ H v d Q QD k r h l => l _ _ _ _ (k.set i r) (.refl _ _) h
theorem dg_name {i : Nat} {x : Str} (hN : X.N.Nodup) (hi : X.N[i]? = some x := by rfl) (hx : Loc X.env.scope x := by first | exact .inl rfl | exact .inr rfl) (hf : X.fn x = true ∨ X.env.scope.names.lookup x = some .local := by first | exact .inl rfl | exact .inr rfl) : DGx X (.Name x pos) (dName i) := ⟨_, pg_name hN hi hx hf, sim_name⟩
def dgNil : DGs := fun ds sl M Q => ds = [] ∧ Q sl M
def dgCons (t : DG) (u : DGs) : DGs := fun ds sl M Q => ∃ d r, ds = d :: r ∧ t d sl M fun sl' M' => u r sl' M' Q
theorem dgs_nil : DGsx X [] dgNil := ⟨_, pgs_nil, fun S0 sl M σ H v d Q QD k r h l => by
  obtain ⟨rfl, h⟩ := h
  cases r
  exact ⟨rfl, l _ _ _ _ k (.refl _ _) h⟩⟩
theorem dgs_cons {t : DG} {u : DGs} (h1 : DGx X a t) (h2 : DGsx X es u) (hs : (assignEach (a :: es) X.env).map (·.2) = assign a X.env :: (assignEach es X.env).map (·.2) := by rfl) : DGsx X (a :: es) (dgCons t u) := by
  obtain ⟨t', p, s⟩ := h1
  obtain ⟨u', q, r⟩ := h2
  refine ⟨_, pgs_cons p q hs, fun S0 sl M σ H v d Q QD k rr h l => ?_⟩
  obtain ⟨d, ds, rfl, h⟩ := h
  cases rr with
  | cons r1 r2 =>
    refine ⟨_, _, rfl, s S0 sl M σ H _ d _ _ k r1 h fun sl' M' σ' H' k' x' h' => ?_⟩
    exact r S0 sl' M' σ' H' _ ds Q QD k' (r2.ext x') h' fun sl2 M2 σ2 H2 k2 x2 h2 => l _ _ _ _ k2 (x'.trans x2) h2
def dgTup (n : Nat) (t : DGs) : DG := fun d sl M Q => match d with
  | .tup ds => ds.length = n ∧ t ds sl M Q
  | _ => False
theorem dg_tup {j n : Nat} {t : DGs} (hc : X.calm = true) (h : DGsx X es t) (hn : (assignEach es X.env).length = n := by rfl) (hst : (assignEach es X.env).findIdx? (·.1) = none := by rfl) : DGx X (.Tuple es j pos) (dgTup n t) := by
  obtain ⟨t', p, s⟩ := h
  refine ⟨_, pg_tup hc p hn hst, fun S0 sl M σ H v d Q QD k r h l => ?_⟩
  cases d with
  | tup ds =>
    obtain ⟨h1, h2⟩ := h
    cases r with
    | tup r1 r2 => exact ⟨_, _, rfl, r1.sq, by rw [r2.length]; exact h1, s S0 sl M σ H _ ds Q QD k r2 h2 l⟩
  | _ => exact h.elim
def dAsg (da : DE) (g : DG) : DS := fun Dd sl M => da sl M (Dd.ex sl) fun d M1 => g d sl M1 Dd.nx
theorem sim_asg {te : TE} {g : TG} {dg : DG} (s : SimE K E te da) (r : SimG K g dg) : SimS K E (tAsg te g) (dAsg da dg) := fun S0 sl M σ H Dd Dn k l h => by
  refine s S0 sl M σ H _ _ _ k (l.xl k) h fun d M1 v H1 m1 x1 r1 q1 => ?_
  exact r S0 sl M1 σ H1 v d _ _ (k.ext m1 x1) r1 q1 fun sl' M' σ' H' k' x' h' => l.nx sl' M' σ' H' k' (x1.trans x') h'
theorem ds_asg {tg : Expr} {dg : DG} (h : DEx X E a da) (hg : DGx X tg dg) (hs : swapsWithSole [tg] a pos.line X.env = pure false := by rfl) (hw : swappedStores [tg] a X.env = pure none := by rfl)
    (h1 : (assignEach [tg] X.env).map (·.2) = [assign tg X.env] := by rfl) : DSx X E (.Assign [tg] a pos) (dAsg da dg) := by
  obtain ⟨t, p, s⟩ := h
  obtain ⟨g, q, r⟩ := hg
  exact ⟨_, ps_asg p q hs hw h1, sim_asg s r⟩
theorem ds_set {i : Nat} {x : Str} {pos' : Pos} (hN : X.N.Nodup) (h : DEx X E a da) (hi : X.N[i]? = some x := by rfl) (hx : Loc X.env.scope x := by first | exact .inl rfl | exact .inr rfl) (hs : swapsWith a (some (.Name x pos')) pos.line X.env = pure false := by rfl)
    (hf : X.fn x = true ∨ X.env.scope.names.lookup x = some .local := by first | exact .inl rfl | exact .inr rfl) : DSx X E (.Assign [.Name x pos'] a pos) (dAsg da (dName i)) := by
  obtain ⟨t, p, s⟩ := h
  exact ⟨_, ps_set hN hi hx p hs hf, sim_asg s sim_name⟩
/-- a, b = e1, e2 -/
def dPar (i j : Nat) (dr : DA) : DS := fun Dd sl M => dr sl M (Dd.ex sl) fun ds M1 => ∃ v w, ds = [v, w] ∧ Dd.nx ((sl.set i (some v)).set j (some w)) M1
theorem ds_par {i j : Nat} {x y : Str} {px py pt : Pos} {kt k2 pt2} (hc : X.calm = true) (hN : X.N.Nodup) (h : DAx X E [a, b] dr) (hi : X.N[i]? = some x := by rfl) (hj : X.N[j]? = some y := by rfl) (hij : i ≠ j := by decide)
    (hx : X.env.scope.names.lookup x = some .local := by rfl) (hy : X.env.scope.names.lookup y = some .local := by rfl)
    (hw : swappedStores [.Tuple [.Name x px, .Name y py] kt pt] (.Tuple [a, b] k2 pt2) X.env = pure (some [x, y]) := by rfl)
    (hs : swapsWithSole [.Tuple [.Name x px, .Name y py] kt pt] (.Tuple [a, b] k2 pt2) pos.line X.env = pure false := by rfl) :
    DSx X E (.Assign [.Tuple [.Name x px, .Name y py] kt pt] (.Tuple [a, b] k2 pt2) pos) (dPar i j dr) := by
  obtain ⟨t, p, s⟩ := h
  refine ⟨_, ps_par hc hN hi hj hij hx hy p hw hs, fun S0 sl M σ H Dd Dn k l h => s S0 sl M σ H _ _ _ k (l.xl k) h fun ds M1 vs H1 m1 x1 r1 q1 => ?_⟩
  obtain ⟨v, w, rfl, q⟩ := q1
  cases r1 with
  | cons ra rb =>
    cases rb with
    | cons rb rc =>
      cases rc
      exact ⟨_, _, rfl, l.nx _ M1 _ H1 (((k.ext m1 x1).set i ra).set j rb) x1 q⟩
/-- x op= e -/
def dAug (i : Nat) (rd : D → D → Mem → DK → Prop) (da : DE) : DS := fun Dd sl M => ∃ x, sl[i]? = some (some x) ∧ da sl M (Dd.ex sl) fun y M1 => vw M1 x fun x' => vw M1 y fun y' => rd x' y' M1 fun z M2 => Dd.nx (sl.set i (some z)) M2
theorem ds_aug {i : Nat} {x : Str} {op : Operator} {r : R2} {rd : D → D → Mem → DK → Prop} {pos' : Pos} (hN : X.N.Nodup) (ho : OpR X (inplaceOp op) r) (hr : SimV2 X.K r rd) (h : DEx X E a da) (hi : X.N[i]? = some x := by rfl) (hx : Loc X.env.scope x := by first | exact .inl rfl | exact .inr rfl)
    (hf : X.fn x = true ∨ X.env.scope.names.lookup x = some .local := by first | exact .inl rfl | exact .inr rfl) : DSx X E (.AugAssign (.Name x pos') op a pos) (dAug i rd da) := by
  obtain ⟨t, p, s⟩ := h
  refine ⟨_, ps_aug (ti := r) hN hi hx p ho hf, fun S0 sl M σ H Dd Dn k l h => ?_⟩
  obtain ⟨d, e1, h⟩ := h
  obtain ⟨v, e2, rv⟩ := k.sl i d e1
  refine ⟨v, e2, s S0 sl M σ H _ _ _ k (l.xl k) h fun y M1 w H1 m1 x1 r1 q1 => ?_⟩
  obtain ⟨w1, q2, t1⟩ := vw_of m1 (rv.ext x1) q1
  obtain ⟨w2, q3, t2⟩ := vw_of m1 r1 q2
  refine hr S0 M1 H1 v w w1 w2 _ _ m1 t1 t2 q3 fun z M2 u H2 m2 x2 r2 q4 => ?_
  exact l.nx _ M2 _ H2 ((k.ext m2 (x1.trans x2)).set i r2) (x1.trans x2) q4
def rIAddA : R2 := fun x y H Q => rI0 (fun i j => .int (i + j)) x y H Q ∨ ∃ i j, x = .str i ∧ y = .str j ∧ i.length + j.length ≤ sizeLine ∧ Q (.str (i ++ j)) H
def iaddD : D → D → Mem → DK → Prop
  | .int i, .int j, M, Q => Q (.int (i + j)) M
  | .str x, .str y, M, Q => x.length + y.length ≤ sizeLine ∧ Q (.str (x ++ y)) M
  | _, _, _, _ => False
theorem op_iaddA : OpR X (inplaceOp .Add) rIAddA := iop_add.or iop_add_str
theorem sv_iadd : SimV2 K rIAddA iaddD := by
  intro S0 M H x y dx dy Q QD m rx ry h l
  cases dx with
  | int i =>
    cases dy with
    | int j => cases rx.int_inv; cases ry.int_inv; exact .inl ⟨i, j, rfl, rfl, l.now m (.int _) h⟩
    | _ => exact h.elim
  | str i =>
    cases dy with
    | str j => cases rx.str_inv; cases ry.str_inv; exact .inr ⟨i, j, rfl, rfl, h.1, l.now m (.str _) h.2⟩
    | _ => exact h.elim
  | _ => exact h.elim

/-! ### owned objects changed -/
/-- what the owned object x is, and how it is written -/
def mutN (M : Mem) (x : D) (f : N → (N → Mem) → Prop) : Prop := match x with
  | .ref p => ∃ (k : Nat) (n : N), M[k]? = some (p, n) ∧ f n fun n' => M.set k (p, n')
  | _ => False
/-- x[i] = v -/
def setD (n : N) (i v : D) (wr : N → Mem) (Q : Mem → Prop) : Prop := match n, i with
  | .lst xs, .int k => ∃ j, ixN xs.length k = some j ∧ Q (wr (.lst (xs.set j v)))
  | .dic kvs, .int k => kvs.length < sizeLine ∧ Q (wr (.dic (if kvs.any fun kv => decide (kv.1 = Sum.inl k) then kvs.map fun kv => if kv.1 = Sum.inl k then (kv.1, v) else kv else kvs ++ [(Sum.inl k, v)])))
  | .dic kvs, .str k => kvs.length < sizeLine ∧ Q (wr (.dic (if kvs.any fun kv => decide (kv.1 = Sum.inr k) then kvs.map fun kv => if kv.1 = Sum.inr k then (kv.1, v) else kv else kvs ++ [(Sum.inr k, v)])))
  | _, _ => False
def dSetIx (dv da di : DE) : DS := fun Dd sl M => dv sl M (Dd.ex sl) fun v M1 => da sl M1 (Dd.ex sl) fun x M2 => di sl M2 (Dd.ex sl) fun i M3 => mutN M3 x fun n wr => setD n i v wr fun M' => Dd.nx sl M'
def rSetA : V → V → V → Hp → (Hp → Prop) → Prop := fun o i v H Q => rSetL o i v H Q ∨ ∃ a H', o = .ref a ∧ DPut H a i v H' ∧ Q H'
theorem set_all (hu : X.A.units + 1 < cLine) : PSet X rSetA := by
  intro pins s σ H o i v ov iv u Q I ro ri rv q
  rcases q with q | ⟨a, H', rfl, g, q⟩
  · exact set_list pins s σ H o i v ov iv u Q I ro ri rv q
  · cases ro
    exact d_setItem hu I g ri rv fun s' I' => ⟨H', I', q⟩
def putD (kvs : List (Key × D)) (k : Key) (v : D) : List (Key × D) := if kvs.any fun kv => decide (kv.1 = k) then kvs.map fun kv => if kv.1 = k then (kv.1, v) else kv else kvs ++ [(k, v)]
theorem RepsK.any {S : Mark} {H : Hp} {k : Key} : ∀ {kvs : List (Key × D)} {ws : List (Key × V)}, RepsK K S H ws kvs → (ws.any fun kv => decide (kv.1 = k)) = kvs.any fun kv => decide (kv.1 = k) := by
  intro kvs
  induction kvs with
  | nil => intro ws h; cases h; rfl
  | cons p r ih =>
    intro ws h
    cases h with
    | cons a b => rw [List.any_cons, List.any_cons, ih b]
theorem RepsK.repl {S : Mark} {H : Hp} {k : Key} {v : V} {d : D} (rv : Rep K S H v d) : ∀ {kvs : List (Key × D)} {ws : List (Key × V)}, RepsK K S H ws kvs → RepsK K S H (ws.map fun kv => if kv.1 = k then (kv.1, v) else kv) (kvs.map fun kv => if kv.1 = k then (kv.1, d) else kv) := by
  intro kvs
  induction kvs with
  | nil => intro ws h; cases h; exact .nil
  | cons p r ih =>
    intro ws h
    cases h with
    | cons a b =>
      rename_i k' v' ws' d'
      rw [List.map_cons, List.map_cons]
      by_cases z : k' = k
      · rw [if_pos z, if_pos z]; exact .cons rv (ih b)
      · rw [if_neg z, if_neg z]; exact .cons a (ih b)
theorem RepsK.snoc {S : Mark} {H : Hp} {k : Key} {v : V} {d : D} (rv : Rep K S H v d) : ∀ {kvs : List (Key × D)} {ws : List (Key × V)}, RepsK K S H ws kvs → RepsK K S H (ws ++ [(k, v)]) (kvs ++ [(k, d)]) := by
  intro kvs
  induction kvs with
  | nil => intro ws h; cases h; exact .cons rv .nil
  | cons p r ih =>
    intro ws h
    cases h with
    | cons a b => exact .cons a (ih b)
theorem RepsK.put {S : Mark} {H : Hp} {k : Key} {v : V} {d : D} (rv : Rep K S H v d) {kvs : List (Key × D)} {ws : List (Key × V)} (h : RepsK K S H ws kvs) : RepsK K S H (putK ws k v) (putD kvs k d) := by
  unfold putK putD
  rw [h.any]
  split
  · exact h.repl rv
  · exact h.snoc rv
theorem ds_setIx {o i : Expr} {pos' : Pos} {dv di : DE} (hu : X.A.units + 64 < cLine) (hv : DEx X E a dv) (ho : DEx X E o da) (hi : DEx X E i di) (hs : swapsWithSole [.Subscript o i pos'] a pos.line X.env = pure false := by rfl) (hw : swappedStores [.Subscript o i pos'] a X.env = pure none := by rfl)
    (ha : ∀ v, assign (.Subscript o i pos') X.env v = (do
      let ov ← holding [v] (eval o X.env)
      let iv ← holding [v, ov] (eval i X.env)
      standAt pos'
      holding [v, ov, iv] (setItem ov iv v)
      release [v, ov, iv] []) := by intro _; rfl) (h1 : (assignEach [.Subscript o i pos'] X.env).map (·.2) = [assign (.Subscript o i pos') X.env] := by rfl) :
    DSx X E (.Assign [.Subscript o i pos'] a pos) (dSetIx dv da di) := by
  obtain ⟨tv, p1, s1⟩ := hv
  obtain ⟨to, p2, s2⟩ := ho
  obtain ⟨ti, p3, s3⟩ := hi
  refine ⟨_, ps_asg p1 (pg_sub p2 p3 (set_all (by omega)) ha) hs hw h1, fun S0 sl M σ H Dd Dn k l h => ?_⟩
  refine s1 S0 sl M σ H _ _ _ k (l.xl k) h fun v M1 v' H1 m1 x1 r1 q1 => ?_
  have k1 := k.ext m1 x1
  refine s2 S0 sl M1 σ H1 _ _ _ k1 ((l.ext x1).xl k1) q1 fun x M2 x' H2 m2 x2 r2 q2 => ?_
  have x12 := x1.trans x2
  have k2 := k.ext m2 x12
  refine s3 S0 sl M2 σ H2 _ _ _ k2 ((l.ext x12).xl k2) q2 fun i M3 i' H3 m3 x3 r3 q3 => ?_
  have x13 := x12.trans x3
  have rv := r1.ext (x2.trans x3)
  have rx := r2.ext x3
  cases x with
  | ref p =>
    cases rx
    obtain ⟨j, n, e, q⟩ := q3
    have g := m3.at_ _ (List.mem_of_getElem? e)
    have fin : ∀ (n' : N) (ob : HO), NodeAt X.K (SM S0 M3) (upd H3 p ob) p n' → Dd.nx sl (M3.set j (p, n')) → Dn.nx σ (upd H3 p ob) := fun n' ob g' q' =>
      l.nx sl _ σ _ (k.ext (m3.write e g') (x13.trans (.write e))) (x13.trans (.write e)) q'
    cases n with
    | lst xs =>
      cases i with
      | int z =>
        cases r3
        obtain ⟨vs, h1, h2⟩ := g
        obtain ⟨t, e2, q⟩ := q
        refine .inl ⟨p, vs, z, t, rfl, rfl, h1, by rw [h2.length]; exact e2, fin (.lst (xs.set t v)) _ ⟨_, upd_same, Reps.mono (kp_write e _) _ _ (h2.set t rv)⟩ q⟩
      | _ => exact q.elim
    | dic kvs =>
      obtain ⟨ws, h1, h2⟩ := g
      cases i with
      | int z =>
        cases r3
        refine .inr ⟨p, _, rfl, DPut.k (k := Sum.inl z) h1 (by rw [h2.length]; exact q.1), fin (.dic (putD kvs (Sum.inl z) v)) _ ⟨_, upd_same, RepsK.mono (kp_write e _) _ _ (h2.put (k := Sum.inl z) rv)⟩ q.2⟩
      | str z =>
        cases r3
        refine .inr ⟨p, _, rfl, DPut.k (k := Sum.inr z) h1 (by rw [h2.length]; exact q.1), fin (.dic (putD kvs (Sum.inr z) v)) _ ⟨_, upd_same, RepsK.mono (kp_write e _) _ _ (h2.put (k := Sum.inr z) rv)⟩ q.2⟩
      | _ => exact q.elim
    | _ => exact q.elim
  | _ => exact q3.elim
end
end OD

/-! OD7: methods of lists, loops, comprehensions, defs. -/
namespace OD
open PySem PySem.Spec L2

section
variable {X : Cx} {E : L2.St → XK} {K : PySem.W.Frag} {a b c : Expr} {es : List Expr} {pos : Pos} {da db dc : DE} {dr : DA} {dt : DT} {sts : List Stmt} {td ud : DS}

/-! ### methods of lists -/
/-- r: the method's rule by values; f: what it does to the items -/
def SimM (K : PySem.W.Frag) (r : V → List V → Hp → VK → Prop) (f : List D → List D → (List D → Mem) → DK → Prop) : Prop := ∀ (S0 : Mark) (M : Mem) (H : Hp) (p : Addr) (vs : List V) (ds : List D) (j : Nat) (xs : List D) (Q : VK) (QD : DK),
  MemOk K S0 M H → RepTs K (SM S0 M) H vs ds → M[j]? = some (p, .lst xs) → f xs ds (fun ys => M.set j (p, .lst ys)) QD → Lk K S0 M H Q QD → r (.ref p) vs H Q
def isLst (M : Mem) (x : D) : Prop := match x with
  | .ref p => ∃ (k : Nat) (xs : List D), M[k]? = some (p, .lst xs)
  | _ => False
def mutL (M : Mem) (x : D) (f : List D → (List D → Mem) → Prop) : Prop := match x with
  | .ref p => ∃ (k : Nat) (xs : List D), M[k]? = some (p, .lst xs) ∧ f xs fun ys => M.set k (p, .lst ys)
  | _ => False
def dMth (f : List D → List D → (List D → Mem) → DK → Prop) (da : DE) (dr : DA) : DE := fun sl M ED Q => da sl M ED fun x M1 => isLst M1 x ∧ dr sl M1 ED fun ds M2 => mutL M2 x fun xs wr => vws M2 ds fun ws => f xs ws wr Q
theorem de_mth {name : Str} {id : String} {r : V → List V → Hp → VK → Prop} {f : List D → List D → (List D → Mem) → DK → Prop} {e o : Expr} {apos cpos : Pos} (slot : PySem.Slot "list" name id) (hty : typeOf (.builtin id) = pure (.type "method_descriptor")) (hm : MtR X id r) (hs : SimM X.K r f)
    (ho : DEx X E o da) (ha : DAx X E (e :: es) dr)
    (hbase : attributeBase o name X.env (eval o X.env) = eval o X.env := by rfl)
    (hfew : ((backTo cpos (starEach (e :: es) X.env)).all (fun x => !x.1) && (backToKw cpos (keywordEach [] X.env)).all (fun x => x.1.isSome)
      && decide ((e :: es).length + ([] : List Keyword).length + (if ([] : List Keyword).isEmpty then 0 else 1) < 30)) = true := by rfl)
    (hline : (apos.endLine == cpos.line) = true := by rfl) (hst : starEach (e :: es) X.env = (false, eval e X.env) :: starEach es X.env := by rfl) (hplain : (backTo cpos (starEach es X.env)).any (·.1) = false := by rfl) :
    DEx X E (.Call (.Attribute o name apos) (e :: es) [] cpos) (dMth f da dr) := by
  obtain ⟨to, p1, s1⟩ := ho
  obtain ⟨ta, p2, s2⟩ := ha
  refine ⟨_, pe_bm PySem.F.plainAttrs_list slot hty hm p1 p2 hbase hfew hline hst hplain, fun S0 sl M σ H Q QD ED k xl hd l => ?_⟩
  refine s1 S0 sl M σ H _ _ ED k xl hd fun x M1 v H1 m1 x1 r1 q1 => ?_
  obtain ⟨h1, q1⟩ := q1
  cases x with
  | ref p =>
    cases r1
    obtain ⟨j, xs, ej⟩ := h1
    obtain ⟨vs, g1, g2⟩ := m1.at_ _ (List.mem_of_getElem? ej)
    refine ⟨.inl ⟨rfl, vs, .inl (.inl g1)⟩, s2 S0 sl M1 σ H1 _ _ ED (k.ext m1 x1) (xl.ext x1) q1 fun ds M2 us H2 m2 x2 r2 q2 => ?_⟩
    obtain ⟨j2, ys, e2, q3⟩ := q2
    obtain ⟨ws, q4, r4⟩ := vws_of m2 r2 q3
    exact hs S0 M2 H2 p us ws j2 ys Q QD m2 r4 e2 q4 (l.ext (x1.trans x2))
  | _ => exact h1.elim
theorem de_mth0 {name : Str} {id : String} {r : V → List V → Hp → VK → Prop} {f : List D → List D → (List D → Mem) → DK → Prop} {o : Expr} {apos cpos : Pos} (slot : PySem.Slot "list" name id) (hty : typeOf (.builtin id) = pure (.type "method_descriptor")) (hm : MtR X id r) (hs : SimM X.K r f)
    (ho : DEx X E o da) (hbase : attributeBase o name X.env (eval o X.env) = eval o X.env := by rfl) (hline : (apos.endLine == cpos.line) = true := by rfl) :
    DEx X E (.Call (.Attribute o name apos) [] [] cpos) (dMth f da dNil) := by
  obtain ⟨to, p1, s1⟩ := ho
  refine ⟨_, pe_bm0 PySem.F.plainAttrs_list slot hty hm p1 hbase hline, fun S0 sl M σ H Q QD ED k xl hd l => ?_⟩
  refine s1 S0 sl M σ H _ _ ED k xl hd fun x M1 v H1 m1 x1 r1 q1 => ?_
  obtain ⟨h1, q1⟩ := q1
  cases x with
  | ref p =>
    cases r1
    obtain ⟨j, xs, ej⟩ := h1
    obtain ⟨vs, g1, g2⟩ := m1.at_ _ (List.mem_of_getElem? ej)
    obtain ⟨j2, ys, e2, q3⟩ := q1
    exact ⟨.inl ⟨rfl, vs, .inl (.inl g1)⟩, hs S0 M1 H1 p [] [] j2 ys Q QD m1 .nil e2 q3 (l.ext x1)⟩
  | _ => exact h1.elim
section
variable {S0 : Mark} {M : Mem} {H : Hp} {Q : VK} {QD : DK}
/-- an owned list is written -/
theorem wr_lst {j : Nat} {p : Addr} {xs ys : List D} {ws : List V} {d : D} {v : V} (m : MemOk K S0 M H) (e : M[j]? = some (p, .lst xs)) (r : Reps K (SM S0 M) H ws ys) (rv : Rep K (SM S0 M) H v d) (h : QD d (M.set j (p, .lst ys))) (l : Lk K S0 M H Q QD) : Q v (upd H p (.lst ws)) := by
  have x : Ext M H (M.set j (p, .lst ys)) (upd H p (.lst ws)) := .write e
  exact l d _ v _ (m.write (n' := .lst ys) e ⟨ws, upd_same, Reps.mono (kp_write e _) _ _ r⟩) x (rv.ext x) h
end
theorem RepT.rep_ne {S : Mark} {H : Hp} {v : V} {d : D} (r : RepT K S H v d) (h : match d with | .lst _ => False | .dic _ => False | .obj _ _ => False | _ => True) : Rep K S H v d := by
  cases r with
  | imm r => exact r
  | lst _ _ => exact h.elim
  | dic _ _ => exact h.elim
  | obj _ _ => exact h.elim
/-! append takes its item unlooked-at -/
def dApp (da db : DE) : DE := fun sl M ED Q => da sl M ED fun x M1 => isLst M1 x ∧ db sl M1 ED fun d M2 => mutL M2 x fun xs wr => xs.length < sizeLine ∧ Q .non (wr (xs ++ [d]))
theorem de_app {e o : Expr} {apos cpos : Pos} (ho : DEx X E o da) (ha : DEx X E e db)
    (hbase : attributeBase o "append" X.env (eval o X.env) = eval o X.env := by rfl)
    (hfew : ((backTo cpos (starEach (e :: []) X.env)).all (fun x => !x.1) && (backToKw cpos (keywordEach [] X.env)).all (fun x => x.1.isSome)
      && decide ((e :: []).length + ([] : List Keyword).length + (if ([] : List Keyword).isEmpty then 0 else 1) < 30)) = true := by rfl)
    (hline : (apos.endLine == cpos.line) = true := by rfl) (hst : starEach (e :: []) X.env = (false, eval e X.env) :: starEach [] X.env := by rfl) (hplain : (backTo cpos (starEach [] X.env)).any (·.1) = false := by rfl) :
    DEx X E (.Call (.Attribute o "append" apos) [e] [] cpos) (dApp da db) := by
  obtain ⟨to, p1, s1⟩ := ho
  obtain ⟨ta, p2, s2⟩ := ha
  refine ⟨_, pe_bm PySem.F.plainAttrs_list PySem.F.slot_list_append PySem.F.type_list_append mt_append p1 (pa_cons p2 pa_nil hst) hbase hfew hline hst hplain, fun S0 sl M σ H Q QD ED k xl hd l => ?_⟩
  refine s1 S0 sl M σ H _ _ ED k xl hd fun x M1 v H1 m1 x1 r1 q1 => ?_
  obtain ⟨h1, q1⟩ := q1
  cases x with
  | ref p =>
    cases r1
    obtain ⟨j, xs, ej⟩ := h1
    obtain ⟨vs, g1, g2⟩ := m1.at_ _ (List.mem_of_getElem? ej)
    refine ⟨.inl ⟨rfl, vs, .inl (.inl g1)⟩, s2 S0 sl M1 σ H1 _ _ ED (k.ext m1 x1) (xl.ext x1) q1 fun d M2 u H2 m2 x2 r2 q2 => ?_⟩
    obtain ⟨j2, ys, e2, q3, q4⟩ := q2
    obtain ⟨ws, g3, g4⟩ := m2.at_ _ (List.mem_of_getElem? e2)
    exact ⟨p, ws, u, rfl, rfl, g3, by rw [g4.length]; exact q3, wr_lst m2 e2 (g4.append (.one r2)) .non q4 (l.ext (x1.trans x2))⟩
  | _ => exact h1.elim
def popF : List D → List D → (List D → Mem) → DK → Prop := fun xs ds wr Q => match ds with
  | [] => ∃ d, xs[xs.length - 1]? = some d ∧ Q d (wr xs.dropLast)
  | _ => False
theorem sm_pop : SimM K rPop popF := by
  intro S0 M H p vs ds j xs Q QD m rs e h l
  cases rs with
  | nil =>
    obtain ⟨d, e1, q⟩ := h
    obtain ⟨ws, g1, g2⟩ := m.at_ _ (List.mem_of_getElem? e)
    obtain ⟨v, e2, rv⟩ := g2.get e1
    exact ⟨p, ws, v, rfl, rfl, g1, by rw [g2.length]; exact e2, wr_lst m e g2.dropLast rv q l⟩
  | cons _ _ => exact h.elim
def popAtF : List D → List D → (List D → Mem) → DK → Prop := fun xs ds wr Q => match ds with
  | [.int i] => -(2 ^ 63) ≤ i ∧ i < 2 ^ 63 ∧ ∃ k d, seqIndex? i xs.length = some k ∧ xs[k]? = some d ∧ Q d (wr (xs.eraseIdx k))
  | _ => False
theorem sm_popAt : SimM K rPopAt popAtF := by
  intro S0 M H p vs ds j xs Q QD m rs e h l
  cases rs with
  | nil => exact h.elim
  | cons r rs =>
    rename_i v vs d ds
    cases d with
    | int i =>
      cases rs with
      | nil =>
        cases r.int_inv
        obtain ⟨h1, h2, t, d, e1, e3, q⟩ := h
        obtain ⟨ws, g1, g2⟩ := m.at_ _ (List.mem_of_getElem? e)
        obtain ⟨v, e2, rv⟩ := g2.get e3
        exact ⟨p, ws, i, t, v, rfl, rfl, g1, h1, h2, by rw [g2.length]; exact e1, e2, wr_lst m e (g2.eraseIdx t) rv q l⟩
      | cons _ _ => exact h.elim
    | _ => exact h.elim

/-! ### what a loop walks -/
structure Itm where
  n : Nat
  at_ : Nat → D
  gd : Mem → Prop
abbrev DI := Slots → Mem → XD → (Itm → Mem → Prop) → Prop
/-- a mark that has new addresses alone besides -/
def Mk (S0 : Mark) (H : Hp) (S1 : Mark) : Prop := (∀ a, S0 a → S1 a) ∧ ∀ a, S1 a → S0 a ∨ H a = none
theorem Mk.refl (S0 : Mark) (H : Hp) : Mk S0 H S0 := ⟨fun _ h => h, fun _ h => .inl h⟩
theorem Ext.kpM {S0 S1 : Mark} {M M' : Mem} {H H' : Hp} (x : Ext M H M' H') (k : Mk S0 H S1) : Kp (SM S0 M) H (SM S1 M') H' := fun b o e n => by
  refine ⟨x.keep b o e fun h => n (.inr h), fun h => ?_⟩
  rcases h with h | h
  · rcases k.2 b h with h | h
    · exact n (.inl h)
    · rw [e] at h; cases h
  · rcases x.new b h with h | h
    · exact n (.inr h)
    · rw [e] at h; cases h
def ItRep (K : PySem.W.Frag) (S0 : Mark) (M : Mem) (H : Hp) (J : It) (it : Itm) : Prop := ∀ (S1 : Mark) (M' : Mem) (H' : Hp), Mk S0 H S1 → MemOk K S1 M' H' → Ext M H M' H' → it.gd M' →
  (∀ i, i < it.n → J.go i H' ∧ ∀ x H'', J.yld i H' x H'' → MemOk K S1 M' H'' ∧ Ext M' H' M' H'' ∧ Rep K (SM S1 M') H'' x (it.at_ i)) ∧ J.stop it.n H'
def SimI (K : PySem.W.Frag) (E : L2.St → XK) (wi : TI) (di : DI) : Prop := ∀ (S0 : Mark) (sl : Slots) (M : Mem) (σ : L2.St) (H : Hp) (R : It → Hp → Prop) (RD : Itm → Mem → Prop) (ED : XD),
  Ok K S0 sl M σ H → XL K S0 M H (E σ) ED → di sl M ED RD → (∀ it M' J H', MemOk K S0 M' H' → Ext M H M' H' → ItRep K S0 M' H' J it → RD it M' → R J H') → wi σ H R
structure DIx (X : Cx) (E : L2.St → XK) (tg iter : Expr) (di : DI) : Prop where
  ex : ∃ wi, PI X tg iter wi ∧ SimI X.K E wi di
def itSeq (xs : List D) (gd : Mem → Prop) : Itm := ⟨xs.length, fun i => (xs[i]?).getD .non, gd⟩
def itRange (lo c : Int) (n : Nat) : Itm := ⟨n, fun i => .int (lo + (i : Nat) * c), fun _ => True⟩
def itStr (z : Str) : Itm := ⟨z.cps.size, fun i => .str ⟨#[(z.cps[i]?).getD 0]⟩, fun _ => True⟩

/-- what is looked at, and while what it stands -/
def vwG (M : Mem) (d : D) (P : D → (Mem → Prop) → Prop) : Prop := match d with
  | .ref p => ∃ (k : Nat) (n : N), M[k]? = some (p, n) ∧ P (n.toD p) fun M' => M'[k]? = some (p, n)
  | d => P d fun _ => True
def seqI (w : D) (gd : Mem → Prop) (M : Mem) (RD : Itm → Mem → Prop) : Prop := match w with
  | .lst xs => RD (itSeq xs gd) M
  | .tup xs => RD (itSeq xs gd) M
  | .scr ns => RD (itSeq (ns.map .int) gd) M
  | .str z => RD (itStr z) M
  | _ => False
def diSeq (da : DE) : DI := fun sl M ED RD => da sl M ED fun x M1 => vwG M1 x fun w gd => seqI w gd M1 RD
def iVal (K : PySem.W.Frag) (x : V) (H : Hp) (R : It → Hp → Prop) : Prop := (∃ a xs, x = .ref a ∧ SqL K H a xs ∧ R (Itl K a) H) ∨ (∃ a xs, x = .ref a ∧ SqT K H a xs ∧ R (Itt K a) H) ∨ ∃ z, x = .str z ∧ R (Its z) H
def iAny (K : PySem.W.Frag) (te : TE) : TI := fun σ H R => te σ H fun x H1 => iVal K x H1 R
theorem pi_val {tg : Expr} {pins : List (Addr × Obj)} {σ : L2.St} {H : Hp} {s : Shared} {x : V} {v : Value} {R : It → Hp → Prop} (I : Inv X pins σ H s) (r : RelV x v) (q : iVal X.K x H R) : wpAny (model X.prog X.w) X.A (pyIter v) (PIE X pins σ tg R) X.xe s := by
  rcases q with ⟨a, xs, rfl, hq, q⟩ | ⟨a, xs, rfl, hq, q⟩ | ⟨z, rfl, q⟩
  · cases r
    obtain ⟨its, rv, p, hz⟩ := I.list hq
    exact wpAny_pyIter_list p.isList (pi_one (tk := s.toks) I _ (turn_list a _) ⟨_, Heap.get?_push_size _ rfl, rfl, rfl⟩ q)
  · cases r
    obtain ⟨its, rv, p, hz⟩ := I.tuple hq
    exact wpAny_pyIter_tuple (show s.heap.IsTuple a its.toArray from p) (pi_one (tk := s.toks) I _ (turn_tuple a _) ⟨_, Heap.get?_push_size _ rfl, rfl, rfl⟩ q)
  · obtain ⟨t, rfl⟩ := r
    cases h : z.cps.all (· < 128) with
    | true => exact wpAny_pyIter_ascii h (pi_one (tk := s.toks) I _ (turn_str _ z t "str_ascii_iterator" (.inl rfl)) ⟨_, Heap.get?_push_size _ rfl, rfl, rfl⟩ q)
    | false => exact wpAny_pyIter_wide h (pi_one (tk := s.toks) I _ (turn_str _ z t "str_iterator" (.inr rfl)) ⟨_, Heap.get?_push_size _ rfl, rfl, rfl⟩ q)
theorem pi_any {tg e : Expr} {te : TE} (he : PE X e te) : PI X tg e (iAny X.K te) :=
  ⟨fun pins s σ H R I h => thn (he.run pins s σ H _ I h) fun _ s1 ⟨_, _, I1, r1, q⟩ => pi_val I1 r1 q⟩
theorem itRep_list {S0 : Mark} {M : Mem} {H : Hp} {a : Addr} {xs : List D} {gd : Mem → Prop} (hg : ∀ (S1 : Mark) (M' : Mem) (H' : Hp), Mk S0 H S1 → MemOk K S1 M' H' → Ext M H M' H' → gd M' → ∃ vs, SqL K H' a vs ∧ Reps K (SM S1 M') H' vs xs) : ItRep K S0 M H (Itl K a) (itSeq xs gd) := by
  intro S1 M' H' mk m x g
  obtain ⟨vs, h1, h2⟩ := hg S1 M' H' mk m x g
  refine ⟨fun i hi => ?_, vs, h1, by rw [h2.length]; exact Nat.le_refl _⟩
  have hi' : i < xs.length := hi
  obtain ⟨v, e, r⟩ := h2.get (List.getElem?_eq_getElem hi')
  refine ⟨⟨vs, v, h1, e⟩, fun y H'' hy => ?_⟩
  obtain ⟨rfl, f⟩ := hy
  refine ⟨m, .refl _ _, ?_⟩
  have := f vs h1
  rw [e] at this
  cases this
  show Rep K _ _ _ ((xs[i]?).getD .non)
  rw [List.getElem?_eq_getElem hi']
  exact r
theorem itRep_tup {S0 : Mark} {M : Mem} {H : Hp} {a : Addr} {xs : List D} {gd : Mem → Prop} (hg : ∀ (S1 : Mark) (M' : Mem) (H' : Hp), Mk S0 H S1 → MemOk K S1 M' H' → Ext M H M' H' → gd M' → ∃ vs, SqT K H' a vs ∧ Reps K (SM S1 M') H' vs xs) : ItRep K S0 M H (Itt K a) (itSeq xs gd) := by
  intro S1 M' H' mk m x g
  obtain ⟨vs, h1, h2⟩ := hg S1 M' H' mk m x g
  refine ⟨fun i hi => ?_, vs, h1, by rw [h2.length]; exact Nat.le_refl _⟩
  have hi' : i < xs.length := hi
  obtain ⟨v, e, r⟩ := h2.get (List.getElem?_eq_getElem hi')
  refine ⟨⟨vs, v, h1, e⟩, fun y H'' hy => ?_⟩
  obtain ⟨rfl, f⟩ := hy
  refine ⟨m, .refl _ _, ?_⟩
  have := f vs h1
  rw [e] at this
  cases this
  show Rep K _ _ _ ((xs[i]?).getD .non)
  rw [List.getElem?_eq_getElem hi']
  exact r
theorem di_seq {tg : Expr} (h : DEx X E a da) : DIx X E tg a (diSeq da) := by
  obtain ⟨t, p, s⟩ := h
  refine ⟨_, pi_any p, fun S0 sl M σ H R RD ED k xl hd l => s S0 sl M σ H _ _ ED k xl hd fun d M1 v H1 m1 x1 r1 q1 => ?_⟩
  have imm : ∀ w, Rep X.K (SM S0 M1) H1 v w → seqI w (fun _ => True) M1 RD → iVal X.K v H1 R := fun w r q => by
    cases w with
    | lst xs =>
      cases r with
      | lst h1 h2 h3 =>
        exact .inl ⟨_, _, rfl, .inl (.inl h2), l _ M1 _ H1 m1 x1 (itRep_list fun S1 M' H' mk m x g => ⟨_, .inl (.inl (x.keep _ _ h2 fun z => h1 (.inr z))), Reps.mono (x.kpM mk) _ _ h3⟩) q⟩
    | scr ns =>
      cases r with
      | scr h1 =>
        exact .inl ⟨_, _, rfl, h1.sq, l _ M1 _ H1 m1 x1 (itRep_list fun S1 M' H' mk m x g => ⟨_, (h1.mono (x.kpM mk)).sq, .ints _⟩) q⟩
    | tup xs =>
      cases r with
      | tup h1 h3 =>
        exact .inr (.inl ⟨_, _, rfl, h1.sq, l _ M1 _ H1 m1 x1 (itRep_tup fun S1 M' H' mk m x g => ⟨_, (h1.mono (x.kpM mk)).sq, Reps.mono (x.kpM mk) _ _ h3⟩) q⟩)
    | str z =>
      cases r
      refine .inr (.inr ⟨z, rfl, l (itStr z) M1 _ H1 m1 x1 (fun S1 M' H' mk m x g => ⟨fun i hi => ⟨hi, fun y H'' hy => ?_⟩, Nat.le_refl _⟩) q⟩)
      obtain ⟨rfl, c, e, rfl⟩ := hy
      refine ⟨m, .refl _ _, ?_⟩
      show Rep _ _ _ _ (.str ⟨#[(z.cps[i]?).getD 0]⟩)
      rw [e]
      exact .str _
    | _ => exact q.elim
  cases d with
  | ref p =>
    obtain ⟨j, n, e, q⟩ := q1
    cases r1
    obtain g := m1.at_ _ (List.mem_of_getElem? e)
    cases n with
    | lst xs =>
      obtain ⟨vs, h1, h2⟩ := g
      refine .inl ⟨p, vs, rfl, .inl (.inl h1), l _ M1 _ H1 m1 x1 (itRep_list fun S1 M' H' mk m x gd => ?_) q⟩
      obtain ⟨vs', h1', h2'⟩ := m.at_ _ (List.mem_of_getElem? gd)
      exact ⟨vs', .inl (.inl h1'), h2'⟩
    | _ => exact q.elim
  | _ => exact imm _ r1 q1
end
end OD

/-! OD8: for, while, comprehensions; a def keeps its promise. -/
namespace OD
open PySem PySem.Spec L2

section
variable {X : Cx} {E : L2.St → XK} {K : PySem.W.Frag} {a b c : Expr} {es : List Expr} {pos p : Pos} {da db dc : DE} {dr : DA} {dt : DT} {sts : List Stmt} {td ud : DS} {tg iter : Expr}

/-! ### range -/
def diRange1 (dr : DA) : DI := fun sl M ED RD => dr sl M ED fun ds M1 => ∃ j : Int, ds = [.int j] ∧ -(2 ^ 62) ≤ j ∧ j < 2 ^ 62 ∧ RD (itRange 0 1 j.toNat) M1
def diRange2 (dr : DA) : DI := fun sl M ED RD => dr sl M ED fun ds M1 => ∃ i j : Int, ds = [.int i, .int j] ∧ (-(2 ^ 62) ≤ i ∧ i < 2 ^ 62 ∧ -(2 ^ 62) ≤ j ∧ j < 2 ^ 62) ∧ RD (itRange i 1 (j - i).toNat) M1
def diRange3 (dr : DA) : DI := fun sl M ED RD => dr sl M ED fun ds M1 => ∃ (i j c : Int) (n : Nat), ds = [.int i, .int j, .int c] ∧ RgC i j c n ∧ RD (itRange i c n) M1
theorem itRep_r {S0 : Mark} {M : Mem} {H : Hp} {lo : Int} {n : Nat} : ItRep K S0 M H (Itr lo n) (itRange lo 1 n) := fun S1 M' H' mk m x g => ⟨fun i hi => ⟨hi, fun y H'' hy => by
  obtain ⟨rfl, rfl⟩ := hy
  refine ⟨m, .refl _ _, ?_⟩
  show Rep _ _ _ _ (.int (lo + (i : Nat) * 1))
  rw [Int.mul_one]
  exact .int _⟩, Nat.le_refl _⟩
theorem itRep_c {S0 : Mark} {M : Mem} {H : Hp} {lo c : Int} {n : Nat} : ItRep K S0 M H (Itc lo c n) (itRange lo c n) := fun S1 M' H' mk m x g => ⟨fun i hi => ⟨hi, fun y H'' hy => by
  obtain ⟨rfl, rfl⟩ := hy
  exact ⟨m, .refl _ _, .int _⟩⟩, Nat.le_refl _⟩
theorem di_range1 (hm : X.mg "range" = none) (h : DAx X E [a] dr) (hg : Gl X "range" := by rfl) (hs : starEach [a] X.env = [(false, eval a X.env)] := by rfl) : DIx X E tg (.Call (.Name "range" p) [a] [] pos) (diRange1 dr) := by
  obtain ⟨t, q, s⟩ := h
  refine ⟨_, pi_range1 hg hm q hs, fun S0 sl M σ H R RD ED k xl hd l => s S0 sl M σ H _ _ ED k xl hd fun ds M1 vs H1 m1 x1 r1 q1 => ?_⟩
  obtain ⟨j, rfl, b1, b2, q⟩ := q1
  cases r1 with
  | cons ra rb =>
    cases ra; cases rb
    exact ⟨j, rfl, b1, b2, l _ M1 _ H1 m1 x1 itRep_r q⟩
theorem di_range2 (hm : X.mg "range" = none) (h : DAx X E [a, b] dr) (hg : Gl X "range" := by rfl) (hs : starEach [a, b] X.env = [(false, eval a X.env), (false, eval b X.env)] := by rfl) (hs2 : starEach [b] X.env = [(false, eval b X.env)] := by rfl) : DIx X E tg (.Call (.Name "range" p) [a, b] [] pos) (diRange2 dr) := by
  obtain ⟨t, q, s⟩ := h
  refine ⟨_, pi_range2 hg hm q hs hs2, fun S0 sl M σ H R RD ED k xl hd l => s S0 sl M σ H _ _ ED k xl hd fun ds M1 vs H1 m1 x1 r1 q1 => ?_⟩
  obtain ⟨i, j, rfl, bb, q⟩ := q1
  cases r1 with
  | cons ra rb =>
    cases rb with
    | cons rb rc =>
      cases ra; cases rb; cases rc
      exact ⟨i, j, rfl, bb, l _ M1 _ H1 m1 x1 itRep_r q⟩
theorem di_range3 (hm : X.mg "range" = none) (h : DAx X E [a, b, c] dr) (hg : Gl X "range" := by rfl) (hs : starEach [a, b, c] X.env = (false, eval a X.env) :: starEach [b, c] X.env := by rfl) (hpl : (backTo pos (starEach [b, c] X.env)).any (·.1) = false := by rfl) : DIx X E tg (.Call (.Name "range" p) [a, b, c] [] pos) (diRange3 dr) := by
  obtain ⟨t, q, s⟩ := h
  refine ⟨_, pi_range3 hg hm q hs hpl, fun S0 sl M σ H R RD ED k xl hd l => s S0 sl M σ H _ _ ED k xl hd fun ds M1 vs H1 m1 x1 r1 q1 => ?_⟩
  obtain ⟨i, j, k', n, rfl, bb, q⟩ := q1
  cases r1 with
  | cons ra rb =>
    cases rb with
    | cons rb rc =>
      cases rc with
      | cons rc rd =>
        cases ra; cases rb; cases rc; cases rd
        exact ⟨i, j, k', n, rfl, bb, l _ M1 _ H1 m1 x1 itRep_c q⟩

/-! ### for, while -/
def dFor (di : DI) (dg : DG) (tb : DS) : DS := fun Dd sl M => di sl M (Dd.ex sl) fun it M1 => ∃ W : Nat → Slots → Mem → Prop, W 0 sl M1 ∧ (∀ i sl M, i ≤ it.n → W i sl M → it.gd M) ∧
  (∀ i sl M, i < it.n → W i sl M → dg (it.at_ i) sl M fun sl2 M2 => tb { Dd with nx := W (i + 1), ct := W (i + 1), bk := Dd.nx } sl2 M2) ∧ ∀ sl M, W it.n sl M → Dd.nx sl M
theorem ds_for {di : DI} {dg : DG} (hp : PassesOwn (model X.prog X.w) X.A X.env X.xe) (hc : X.calm = true) (hi : DIx X E tg iter di) (hg : DGx X tg dg) (hb : DBx X E sts td) (hs : ∀ x, foldedSetIterable iter X.env x = pure x := by intro _; rfl) :
    DSx X E (.For tg iter sts [] pos) (dFor di dg td) := by
  obtain ⟨wi, p1, s1⟩ := hi
  obtain ⟨g, p2, s2⟩ := hg
  obtain ⟨t, p3, s3⟩ := hb
  refine ⟨_, ps_for hp hc p1 p2 p3 hs, fun S0 sl M σ H Dd Dn k l h => s1 S0 sl M σ H _ _ _ k (l.xl k) h fun it M1 J H1 m1 x1 ir q => ?_⟩
  obtain ⟨W, w0, wg, wt, we⟩ := q
  refine ⟨fun i m σ' H' => m = it.n - i ∧ i ≤ it.n ∧ ∃ sl' M', Ok X.K S0 sl' M' σ' H' ∧ Ext M1 H1 M' H' ∧ W i sl' M', ⟨it.n, by simp, Nat.zero_le _, sl, M1, k.ext m1 x1, .refl _ _, w0⟩, ?_⟩
  rintro i m σ' H' ⟨rfl, hi, sl', M', k', x', w⟩
  have g := ir S0 M' H' (.refl _ _) k'.mem x' (wg i sl' M' hi w)
  by_cases hlt : i < it.n
  · obtain ⟨g1, g2⟩ := g.1 i hlt
    refine .inr ⟨g1, fun σ2 H2 => ∃ sl2 M2, Ok X.K S0 sl2 M2 σ2 H2 ∧ Ext M1 H1 M2 H2 ∧ W (i + 1) sl2 M2, fun σ2 H2 h2 => ⟨it.n - (i + 1), by omega, rfl, hlt, h2⟩, fun y H'' hy => ?_⟩
    obtain ⟨m2, x2, r2⟩ := g2 y H'' hy
    have l2 := l.ext (x1.trans (x'.trans x2))
    refine s2 S0 sl' M' σ' H'' y (it.at_ i) _ _ (k'.ext m2 x2) r2 (wt i sl' M' hlt w) fun sl3 M3 σ3 H3 k3 x3 h3 => ?_
    have l3 := l2.ext x3
    have xx := (x'.trans x2).trans x3
    exact s3 S0 sl3 M3 σ3 H3 { Dd with nx := W (i + 1), ct := W (i + 1), bk := Dd.nx } _ k3 ⟨fun sl4 M4 σ4 H4 k4 x4 h4 => ⟨sl4, M4, k4, xx.trans x4, h4⟩, l3.rt, fun sl4 M4 σ4 H4 k4 x4 h4 => l3.nx sl4 M4 σ4 H4 k4 x4 h4, fun sl4 M4 σ4 H4 k4 x4 h4 => ⟨sl4, M4, k4, xx.trans x4, h4⟩, l3.ex⟩ h3
  · have e : i = it.n := by omega
    subst e
    exact .inl ⟨g.2, l.nx sl' M' σ' H' k' (x1.trans x') (we sl' M' w)⟩
def dWhile (t : DT) (tb : DS) : DS := fun Dd sl M => ∃ W : Nat → Slots → Mem → Prop, (∃ m, W m sl M) ∧ ∀ m sl M, W m sl M → t sl M (Dd.ex sl) fun c M1 =>
  if c = true then tb { Dd with nx := fun sl' M' => ∃ m', m' < m ∧ W m' sl' M', ct := fun sl' M' => ∃ m', m' < m ∧ W m' sl' M', bk := Dd.nx } sl M1 else Dd.nx sl M1
theorem ds_while (hp : PassesOwn (model X.prog X.w) X.A X.env X.xe) (hc : DTx X E c dt) (hb : DBx X E sts td) : DSx X E (.While c sts [] pos) (dWhile dt td) := by
  obtain ⟨t, p1, s1⟩ := hc
  obtain ⟨u, p3, s3⟩ := hb
  refine ⟨_, ps_while hp p1 p3, fun S0 sl M σ H Dd Dn k l h => ?_⟩
  obtain ⟨W, ⟨m0, w0⟩, turn⟩ := h
  refine ⟨fun m σ' H' => ∃ sl' M', Ok X.K S0 sl' M' σ' H' ∧ Ext M H M' H' ∧ W m sl' M', ⟨m0, sl, M, k, .refl _ _, w0⟩, ?_⟩
  rintro m σ' H' ⟨sl', M', k', x', w⟩
  have l' := l.ext x'
  refine s1 S0 sl' M' σ' H' _ _ _ k' (l'.xl k') (turn m sl' M' w) fun c M1 H1 m1 x1 q => ?_
  cases c with
  | true =>
    rw [if_pos rfl] at q ⊢
    have l1 := l'.ext x1
    refine ⟨fun σ2 H2 => ∃ m', m' < m ∧ ∃ sl2 M2, Ok X.K S0 sl2 M2 σ2 H2 ∧ Ext M H M2 H2 ∧ W m' sl2 M2, fun σ2 H2 ⟨m', hm, h2⟩ => ⟨m', hm, h2⟩, ?_⟩
    exact s3 S0 sl' M1 σ' H1 { Dd with nx := fun sl' M' => ∃ m', m' < m ∧ W m' sl' M', ct := fun sl' M' => ∃ m', m' < m ∧ W m' sl' M', bk := Dd.nx } _ (k'.ext m1 x1)
      ⟨fun sl4 M4 σ4 H4 k4 x4 ⟨m', hm, h4⟩ => ⟨m', hm, sl4, M4, k4, (x'.trans x1).trans x4, h4⟩, l1.rt, fun sl4 M4 σ4 H4 k4 x4 h4 => l1.nx sl4 M4 σ4 H4 k4 x4 h4, fun sl4 M4 σ4 H4 k4 x4 ⟨m', hm, h4⟩ => ⟨m', hm, sl4, M4, k4, (x'.trans x1).trans x4, h4⟩, l1.ex⟩ q
  | false =>
    rw [if_neg Bool.false_ne_true] at q ⊢
    exact l'.nx sl' M1 σ' H1 (k'.ext m1 x1) x1 q

/-! ### list comprehensions: one for, no test or one -/
def wipeD (sl : Slots) : List Nat → Slots
  | [] => sl
  | v :: vs => (wipeD sl vs).set v none
theorem wipe_ok {S : Mark} {H : Hp} {σ : L2.St} {sl : Slots} (hl : sl.length = σ.length) (h : SlOk K S H σ sl) : ∀ vs : List Nat, (wipeD sl vs).length = (wipe σ vs).length ∧ SlOk K S H (wipe σ vs) (wipeD sl vs)
  | [] => ⟨hl, h⟩
  | v :: vs => by
    obtain ⟨h1, h2⟩ := wipe_ok hl h vs
    refine ⟨by show ((wipeD sl vs).set v none).length = ((wipe σ vs).set v none).length; rw [List.length_set, List.length_set, h1], fun i d e => ?_⟩
    have e : ((wipeD sl vs).set v none)[i]? = some (some d) := e
    by_cases z : v = i
    · subst z
      have hlt : v < (wipeD sl vs).length := by
        have := (List.getElem?_eq_some_iff.mp e).1
        rwa [List.length_set] at this
      rw [List.getElem?_set_self hlt] at e
      cases e
    · rw [List.getElem?_set_ne z] at e
      obtain ⟨w, e1, r⟩ := h2 i d e
      refine ⟨w, ?_, r⟩
      show ((wipe σ vs).set v none)[i]? = _
      rw [List.getElem?_set_ne z]
      exact e1
theorem wipe_set {i : Nat} {x : Option V} : ∀ {vs : List Nat} {σ : L2.St}, i ∈ vs → wipe (σ.set i x) vs = wipe σ vs
  | v :: vs, σ, h => by
    show (wipe (σ.set i x) vs).set v none = (wipe σ vs).set v none
    by_cases z : i ∈ vs
    · rw [wipe_set z]
    · have e : i = v := by
        rcases List.mem_cons.mp h with e | e
        · exact e
        · exact absurd e z
      subst e
      have : ∀ (ws : List Nat) (τ : L2.St), i ∉ ws → wipe (τ.set i x) ws = (wipe τ ws).set i x := by
        intro ws
        induction ws with
        | nil => intro τ _; rfl
        | cons w ws ih =>
          intro τ hn
          show (wipe (τ.set i x) ws).set w none = ((wipe τ ws).set w none).set i x
          rw [ih τ (fun q => hn (List.mem_cons_of_mem _ q)), List.set_comm _ _ (fun q => hn (by rw [q]; simp))]
      rw [this vs σ z, List.set_set]
theorem wipe_wipe {σ : L2.St} : ∀ vs : List Nat, wipe (wipe σ vs) vs = wipe σ vs := by
  have : ∀ (ws vs : List Nat), (∀ i ∈ ws, i ∈ vs) → wipe (wipe σ ws) vs = wipe σ vs := by
    intro ws
    induction ws with
    | nil => intro vs _; rfl
    | cons w ws ih =>
      intro vs h
      show wipe ((wipe σ ws).set w none) vs = _
      rw [wipe_set (h w (by simp)), ih vs fun i hi => h i (List.mem_cons_of_mem _ hi)]
  exact fun vs => this vs vs fun _ h => h
/-- a target of a comprehension stores in its own names alone -/
def WG (vs : List Nat) (g : TG) : Prop := ∀ (v : V) (σ : L2.St) (H : Hp) (Q : L2.St → Hp → Prop), g v σ H Q → g v σ H fun σ' H' => wipe σ' vs = wipe σ vs ∧ Q σ' H'
def WGs (vs : List Nat) (g : TGs) : Prop := ∀ (v : List V) (σ : L2.St) (H : Hp) (Q : L2.St → Hp → Prop), g v σ H Q → g v σ H fun σ' H' => wipe σ' vs = wipe σ vs ∧ Q σ' H'
def MG (g : TG) : Prop := ∀ (v : V) (σ : L2.St) (H : Hp) (P P' : L2.St → Hp → Prop), (∀ a b, P a b → P' a b) → g v σ H P → g v σ H P'
def MGs (g : TGs) : Prop := ∀ (v : List V) (σ : L2.St) (H : Hp) (P P' : L2.St → Hp → Prop), (∀ a b, P a b → P' a b) → g v σ H P → g v σ H P'
structure DCx (X : Cx) (e : Expr) (vs : List Nat) (td : DG) : Prop where
  ex : ∃ t, PG X e t ∧ SimG X.K t td ∧ WG vs t ∧ MG t
structure DCsx (X : Cx) (e : List Expr) (vs : List Nat) (td : DGs) : Prop where
  ex : ∃ t, PGs X e t ∧ SimGs X.K t td ∧ WGs vs t ∧ MGs t
theorem dc_name {i : Nat} {x : Str} {vs : List Nat} (hN : X.N.Nodup) (hm : i ∈ vs) (hi : X.N[i]? = some x := by rfl) (hx : Loc X.env.scope x := by first | exact .inl rfl | exact .inr rfl) (hf : X.fn x = true ∨ X.env.scope.names.lookup x = some .local := by first | exact .inl rfl | exact .inr rfl) : DCx X (.Name x pos) vs (dName i) :=
  ⟨_, pg_name hN hi hx hf, sim_name, fun v σ H Q h => ⟨wipe_set hm, h⟩, fun v σ H P P' hp h => hp _ _ h⟩
theorem dcs_nil {vs : List Nat} : DCsx X [] vs dgNil := ⟨_, pgs_nil, fun S0 sl M σ H v d Q QD k r h l => by
  obtain ⟨rfl, h⟩ := h
  cases r
  exact ⟨rfl, l _ _ _ _ k (.refl _ _) h⟩, fun v σ H Q h => ⟨h.1, rfl, h.2⟩, fun v σ H P P' hp h => ⟨h.1, hp _ _ h.2⟩⟩
theorem dcs_cons {vs : List Nat} {t : DG} {u : DGs} (h1 : DCx X a vs t) (h2 : DCsx X es vs u) (hs : (assignEach (a :: es) X.env).map (·.2) = assign a X.env :: (assignEach es X.env).map (·.2) := by rfl) : DCsx X (a :: es) vs (dgCons t u) := by
  obtain ⟨t', p, s, w, mt⟩ := h1
  obtain ⟨u', q, r, y, mu⟩ := h2
  refine ⟨_, pgs_cons p q hs, fun S0 sl M σ H v d Q QD k rr h l => ?_, fun v σ H Q h => ?_, fun v σ H P P' hp h => ?_⟩
  · obtain ⟨d, ds, rfl, h⟩ := h
    cases rr with
    | cons r1 r2 =>
      refine ⟨_, _, rfl, s S0 sl M σ H _ d _ _ k r1 h fun sl' M' σ' H' k' x' h' => ?_⟩
      exact r S0 sl' M' σ' H' _ ds Q QD k' (r2.ext x') h' fun sl2 M2 σ2 H2 k2 x2 h2 => l _ _ _ _ k2 (x'.trans x2) h2
  · obtain ⟨x, xs, rfl, h⟩ := h
    refine ⟨x, xs, rfl, mt x σ H _ _ (fun σ' H' z => ?_) (w x σ H _ h)⟩
    exact mu xs σ' H' _ _ (fun σ2 H2 z2 => ⟨z2.1.trans z.1, z2.2⟩) (y xs σ' H' _ z.2)
  · obtain ⟨x, xs, rfl, h⟩ := h
    exact ⟨x, xs, rfl, mt x σ H _ _ (fun σ' H' z => mu xs σ' H' _ _ hp z) h⟩
theorem dc_tup {j n : Nat} {t : DGs} {vs : List Nat} (hc : X.calm = true) (h : DCsx X es vs t) (hn : (assignEach es X.env).length = n := by rfl) (hst : (assignEach es X.env).findIdx? (·.1) = none := by rfl) : DCx X (.Tuple es j pos) vs (dgTup n t) := by
  obtain ⟨t', p, s, w, mt⟩ := h
  refine ⟨_, pg_tup hc p hn hst, fun S0 sl M σ H v d Q QD k r h l => ?_, fun v σ H Q h => ?_, fun v σ H P P' hp h => ?_⟩
  · cases d with
    | tup ds =>
      obtain ⟨h1, h2⟩ := h
      cases r with
      | tup r1 r2 => exact ⟨_, _, rfl, r1.sq, by rw [r2.length]; exact h1, s S0 sl M σ H _ ds Q QD k r2 h2 l⟩
    | _ => exact h.elim
  · obtain ⟨a, xs, e, h1, h2, h3⟩ := h
    exact ⟨a, xs, e, h1, h2, w xs σ H _ h3⟩
  · obtain ⟨a, xs, e, h1, h2, h3⟩ := h
    exact ⟨a, xs, e, h1, h2, mt xs σ H _ _ hp h3⟩
structure DPx (X : Cx) (E : L2.St → XK) (ifs : List Expr) (td : DT) : Prop where
  ex : ∃ t, PTs X ifs t ∧ SimT X.K E t td
def dYes : DT := fun _ M _ Q => Q true M
theorem dp_nil : DPx X E [] dYes := ⟨_, pts_nil, fun S0 sl M σ H Q QD ED k xl hd l => l true M H k.mem (.refl _ _) hd⟩
theorem dp_one (h : DTx X E c dt) : DPx X E [c] dt := by
  obtain ⟨t, p, s⟩ := h
  exact ⟨_, pts_one p, s⟩
def NoX : XD := fun _ _ _ => False
/-- W by the turn, what is made so far, the memory -/
def dLc (o : Bool) (di : DI) (vs : List Nat) (dg : DG) (tt : DT) (te : DE) : DE := fun sl M ED Q => di sl M ED fun it M1 => ∃ W : Nat → List D → Mem → Prop, W 0 [] M1 ∧ (∀ j acc M, j ≤ it.n → W j acc M → it.gd M) ∧
  (∀ j acc M, j < it.n → W j acc M → dg (it.at_ j) (wipeD sl vs) M fun sl2 M2 => tt sl2 M2 NoX fun b M3 => if b = true then te sl2 M3 NoX fun d M4 => acc.length < sizeLine ∧ W (j + 1) (acc ++ [d]) M4 else W (j + 1) acc M3) ∧
  ∀ acc M, W it.n acc M → al o (.lst acc) M Q
theorem MemOk.weak {S0 S1 : Mark} {M : Mem} {H : Hp} (m : MemOk K S1 M H) (h : ∀ a, S0 a → S1 a) : MemOk K S0 M H :=
  ⟨m.nd, fun e he => (m.at_ e he).mono (fun b o eb n => ⟨eb, fun z => n (z.elim (fun z => .inl (h b z)) .inr)⟩) rfl, fun a s => m.trk a (h a s), fun a ha s => m.dis a ha (h a s)⟩
theorem Rep.weak {S0 S1 : Mark} {M : Mem} {H : Hp} {v : V} {d : D} (r : Rep K (SM S1 M) H v d) (h : ∀ a, S0 a → S1 a) : Rep K (SM S0 M) H v d :=
  Rep.mono (fun b o eb n => ⟨eb, fun z => n (z.elim (fun z => .inl (h b z)) .inr)⟩) d v r
theorem XL.no {S0 : Mark} {M : Mem} {H : Hp} {E : XK} : XL K S0 M H E NoX := fun _ _ _ _ _ _ _ _ z => z.elim
theorem sim_lc {o : Bool} {wi : TI} {di : DI} {g : TG} {dg : DG} {t : TT} {te : TE} {tt : DT} {de : DE} {vs : List Nat} {E' : L2.St → XK} (s1 : SimI K E wi di) (s2 : SimG K g dg) (mg : WG vs g) (s3 : SimT K E' t tt) (s4 : SimE K E' te de) : SimE K E (tLc wi g t te vs) (dLc o di vs dg tt de) := by
  intro S0 sl M σ H Q QD ED k xl hd l
  refine s1 S0 sl M σ H _ _ ED k xl hd fun it M1 J H1 m1 x1 ir q => ?_
  obtain ⟨W, w0, wg, wt, we⟩ := q
  intro Dl hD
  -- the new list is marked while it grows
  let S1 : Mark := fun a => S0 a ∨ a = Dl
  have mk : Mk S0 H1 S1 := ⟨fun a h => .inl h, fun a h => h.imp _root_.id fun e => by rw [e]; exact hD⟩
  have hs : ∀ a, S0 a → S1 a := fun a h => .inl h
  have k1 := k.ext m1 x1
  have St : ∀ {acc : List D} {vs' : List V} {M' : Mem} {H' : Hp}, MemOk K S1 M' H' → Ext M1 H1 M' H' → Ok K S1 sl M' σ H' := fun {acc vs' M' H'} m x =>
    ⟨k.len, fun i d e => let ⟨v, e2, r⟩ := k1.sl i d e; ⟨v, e2, Rep.mono (x.kpM mk) d v r⟩, m⟩
  refine ⟨fun i m H' => m = it.n - i ∧ i ≤ it.n ∧ ∃ (acc : List D) (accV : List V) (M' : Mem), MemOk K S1 M' H' ∧ Ext M1 H1 M' H' ∧ H' Dl = some (.lst accV) ∧ Reps K (SM S1 M') H' accV acc ∧ W i acc M', ⟨it.n, by simp, Nat.zero_le _, [], [], M1, ?_, .new_imm hD, upd_same, .nil, w0⟩, ?_⟩
  · have b := m1.new_imm (o := .lst []) hD
    refine ⟨b.nd, fun e he => (m1.at_ e he).mono ((Ext.new_imm (M := M1) (o := .lst []) hD).kpM mk) ?_, fun a h => ?_, fun a ha h => ?_⟩
    · rw [upd_ne]
      intro z
      exact (m1.at_ e he).some (by rw [z]; exact hD)
    · rcases h with h | h
      · exact b.trk a h
      · rw [h, upd_same]; exact fun z => by cases z
    · rcases h with h | h
      · exact m1.dis a ha h
      · rw [h] at ha; exact m1.notKey hD ha
  · rintro i m H' ⟨rfl, hi, acc, accV, M', m', x', eD, rD, w⟩
    have gg := ir S1 M' H' mk m' x' (wg i acc M' hi w)
    by_cases hlt : i < it.n
    · obtain ⟨g1, g2⟩ := gg.1 i hlt
      refine .inr ⟨g1, fun H2 => ∃ (acc : List D) (accV : List V) (M2 : Mem), MemOk K S1 M2 H2 ∧ Ext M1 H1 M2 H2 ∧ H2 Dl = some (.lst accV) ∧ Reps K (SM S1 M2) H2 accV acc ∧ W (i + 1) acc M2, fun H2 h2 => ⟨it.n - (i + 1), by omega, rfl, hlt, h2⟩, fun y H'' hy => ?_⟩
      obtain ⟨m2, x2, r2⟩ := g2 y H'' hy
      have kk : Ok K S1 sl M' σ H'' := St (acc := acc) (vs' := accV) m2 (x'.trans x2)
      have kw : Ok K S1 (wipeD sl vs) M' (wipe σ vs) H'' := let z := wipe_ok kk.len kk.sl vs; ⟨z.1, z.2, m2⟩
      have nD : ∀ {M'' : Mem} {h : Hp}, MemOk K S1 M'' h → Dl ∉ keys M'' := fun m z => m.dis Dl z (.inr rfl)
      have base := s2 S1 (wipeD sl vs) M' (wipe σ vs) H'' y (it.at_ i) (fun σ2 H2 => t σ2 H2 fun b H3 => if b = true then te σ2 H3 fun y H4 => ∃ acc, H4 Dl = some (.lst acc) ∧ acc.length < sizeLine ∧ (∃ (acc' : List D) (accV : List V) (M2 : Mem), MemOk K S1 M2 (upd H4 Dl (.lst (acc ++ [y]))) ∧ Ext M1 H1 M2 (upd H4 Dl (.lst (acc ++ [y]))) ∧ upd H4 Dl (.lst (acc ++ [y])) Dl = some (.lst accV) ∧ Reps K (SM S1 M2) (upd H4 Dl (.lst (acc ++ [y]))) accV acc' ∧ W (i + 1) acc' M2) else
        (∃ (acc : List D) (accV : List V) (M2 : Mem), MemOk K S1 M2 H3 ∧ Ext M1 H1 M2 H3 ∧ H3 Dl = some (.lst accV) ∧ Reps K (SM S1 M2) H3 accV acc ∧ W (i + 1) acc M2)) _ kw r2 (wt i acc M' hlt w) fun sl3 M3 σ3 H3 k3 x3 q3 => ?_
      · have z := mg y (wipe σ vs) H'' _ base
        rw [wipe_wipe] at z
        exact z
      · refine s3 S1 sl3 M3 σ3 H3 _ _ NoX k3 XL.no q3 fun b M4 H4 m4 x4 q4 => ?_
        have x34 := (x2.trans x3).trans x4
        cases b with
        | false =>
          rw [if_neg Bool.false_ne_true] at q4 ⊢
          exact ⟨acc, accV, M4, m4, x'.trans x34, x34.keep _ _ eD (nD m'), rD.ext x34, q4⟩
        | true =>
          rw [if_pos rfl] at q4 ⊢
          refine s4 S1 sl3 M4 σ3 H4 _ _ NoX (k3.ext m4 x4) XL.no q4 fun d M5 u H5 m5 x5 r5 q5 => ?_
          obtain ⟨ql, qw⟩ := q5
          have x35 := x34.trans x5
          have e5 := x35.keep _ _ eD (nD m')
          -- the list with one item more
          have kp : Kp (SM S1 M5) H5 (SM S1 M5) (upd H5 Dl (.lst (accV ++ [u]))) := fun b ob eb n => ⟨by rw [upd_ne (fun z => n (.inl (.inr z)))]; exact eb, n⟩
          refine ⟨accV, e5, by rw [rD.length]; exact ql, acc ++ [d], accV ++ [u], M5, ?_, ?_, upd_same, Reps.mono kp _ _ ((rD.ext x35).append (.one r5)), qw⟩
          · refine ⟨m5.nd, fun e he => (m5.at_ e he).mono kp ?_, fun a h => ?_, m5.dis⟩
            · rw [upd_ne]
              intro z
              exact nD m5 (z ▸ List.mem_map.mpr ⟨e, he, rfl⟩)
            · by_cases z : a = Dl
              · rw [z, upd_same]; exact fun z => by cases z
              · rw [upd_ne z]; exact m5.trk a h
          · have xx := x'.trans x35
            refine ⟨fun b ob eb n => ?_, xx.new, fun b hb => ?_⟩
            · rw [upd_ne (ne_of_none eb hD)]
              exact xx.keep b ob eb n
            · by_cases z : b = Dl
              · rw [z, upd_same]; exact fun z => by cases z
              · rw [upd_ne z]; exact xx.trk b hb
    · have e : i = it.n := by omega
      subst e
      refine .inl ⟨gg.2, ?_⟩
      have q := we acc M' w
      have l' := l.ext (x1.trans x')
      have nD : Dl ∉ keys M' := fun z => m'.dis Dl z (.inr rfl)
      have nS : ¬ S0 Dl := fun z => m1.trk Dl z hD
      have hH : H Dl = none := Classical.byContradiction fun z => x1.trk Dl z hD
      cases o with
      | false =>
        have m0 : MemOk K S0 M' H' := m'.weak hs
        have kp : Kp (SM S1 M') H' (SM S0 M') H' := fun b o eb n => ⟨eb, fun z => n (z.elim (fun z => .inl (hs b z)) .inr)⟩
        exact l'.now m0 (.lst (fun z => z.elim nS nD) eD (Reps.mono kp _ _ rD)) q
      | true =>
        have sm : SM S0 (M' ++ [(Dl, .lst acc)]) = SM S1 M' := by
          funext a
          unfold SM
          rw [keys_append]
          refine propext ⟨fun h => ?_, fun h => ?_⟩
          · rcases h with h | h
            · exact .inl (.inl h)
            · rcases List.mem_append.mp h with h | h
              · exact .inr h
              · have : a = Dl := by simpa [keys] using h
                exact .inl (.inr this)
          · rcases h with (h | h) | h
            · exact .inl h
            · exact .inr (List.mem_append_right _ (by simp [keys, h]))
            · exact .inr (List.mem_append_left _ h)
        refine l (.ref Dl) _ _ _ ⟨?_, fun e he => ?_, fun a h => m'.trk a (hs a h), fun a ha => ?_⟩ ⟨(x1.trans x').keep, fun b hb => ?_, (x1.trans x').trk⟩ (.ref Dl) (q Dl nD)
        · rw [keys_append]
          refine List.nodup_append.mpr ⟨m'.nd, by simp [keys], fun a ha b hb z => ?_⟩
          have : b = Dl := by simpa [keys] using hb
          exact nD (by rw [← this, ← z]; exact ha)
        · rw [sm]
          rcases List.mem_append.mp he with he | he
          · exact m'.at_ e he
          · have : e = (Dl, .lst acc) := by simpa using he
            subst this
            exact ⟨accV, eD, rD⟩
        · rw [keys_append] at ha
          rcases List.mem_append.mp ha with h | h
          · exact fun z => m'.dis a h (.inl z)
          · have : a = Dl := by simpa [keys] using h
            rw [this]; exact nS
        · rw [keys_append] at hb
          rcases List.mem_append.mp hb with h | h
          · exact (x1.trans x').new b h
          · have : b = Dl := by simpa [keys] using h
            rw [this]; exact .inr hH
theorem de_lc (o : Bool) {scope : Scope} {own : List (Str × Nat)} {ifs : List Expr} {elt : Expr} {di : DI} {dg : DG} {tt : DT} {te : DE} (hc : X.calm = true) (hN : X.N.Nodup) (hi : DIx X E tg iter di) (ok : BlkOk X.N X.env.scope scope own)
    (hg : ∀ (s : Shared) (H : Hp) (C : Addr) (cl : List (Str × Addr)) (fp : List Addr), DCx (X.blk s H scope (compEnvC scope cl C X.env) fp) tg (own.map (·.2)) dg)
    (ht : ∀ (s : Shared) (H : Hp) (C : Addr) (cl : List (Str × Addr)) (fp : List Addr), DPx (X.blk s H scope (compEnvC scope cl C X.env) fp) (fun _ => E0) ifs tt)
    (he : ∀ (s : Shared) (H : Hp) (C : Addr) (cl : List (Str × Addr)) (fp : List Addr), DEx (X.blk s H scope (compEnvC scope cl C X.env) fp) (fun _ => E0) elt te) (hs : ∀ x, foldedSetIterable iter X.env x = pure x := by intro _; rfl) :
    DEx X E (.ListComp elt [⟨tg, iter, ifs, 0⟩] scope pos) (dLc o di (own.map (·.2)) dg tt te) := by
  obtain ⟨wi, p1, s1⟩ := hi
  refine ⟨_, pe_lc (g := fun v σ H Q => ∀ s H0 C cl fp, (hg s H0 C cl fp).ex.choose v σ H Q) (tt := fun σ H Q => ∀ s H0 C cl fp, (ht s H0 C cl fp).ex.choose σ H Q) (te := fun σ H Q => ∀ s H0 C cl fp, (he s H0 C cl fp).ex.choose σ H Q) hc hN p1 ok
    (fun s H0 C cl fp => ⟨fun pins st σ H v u Q I r h => (hg s H0 C cl fp).ex.choose_spec.1.run pins st σ H v u Q I r (h s H0 C cl fp)⟩)
    (fun s H0 C cl fp => ⟨fun pins st σ H Q I h => (ht s H0 C cl fp).ex.choose_spec.1.run pins st σ H Q I (h s H0 C cl fp)⟩)
    (fun s H0 C cl fp => ⟨fun pins st σ H Q I h => (he s H0 C cl fp).ex.choose_spec.1.run pins st σ H Q I (h s H0 C cl fp)⟩) hs, ?_⟩
  refine sim_lc (E' := fun _ => E0) s1 ?_ ?_ ?_ ?_
  · exact fun S0 sl M σ H v d Q QD k r h l s H0 C cl fp => (hg s H0 C cl fp).ex.choose_spec.2.1 S0 sl M σ H v d Q QD k r h l
  · exact fun v σ H Q h s H0 C cl fp => (hg s H0 C cl fp).ex.choose_spec.2.2.1 v σ H Q (h s H0 C cl fp)
  · exact fun S0 sl M σ H Q QD ED k xl h l s H0 C cl fp => (ht s H0 C cl fp).ex.choose_spec.2 S0 sl M σ H Q QD ED k xl h l
  · exact fun S0 sl M σ H Q QD ED k xl h l s H0 C cl fp => (he s H0 C cl fp).ex.choose_spec.2 S0 sl M σ H Q QD ED k xl h l
/-- name = [..], the name a local that no block has -/
theorem ds_setLc (o : Bool) {i : Nat} {y : Str} {py spos : Pos} {scope : Scope} {own : List (Str × Nat)} {ifs : List Expr} {elt : Expr} {di : DI} {dg : DG} {tt : DT} {te : DE} (hc : X.calm = true) (hN : X.N.Nodup) (hi : DIx X E tg iter di) (ok : BlkOk X.N X.env.scope scope own)
    (hg : ∀ (s : Shared) (H : Hp) (C : Addr) (cl : List (Str × Addr)) (fp : List Addr), DCx (X.blk s H scope (compEnvC scope cl C X.env) fp) tg (own.map (·.2)) dg)
    (ht : ∀ (s : Shared) (H : Hp) (C : Addr) (cl : List (Str × Addr)) (fp : List Addr), DPx (X.blk s H scope (compEnvC scope cl C X.env) fp) (fun _ => E0) ifs tt)
    (he : ∀ (s : Shared) (H : Hp) (C : Addr) (cl : List (Str × Addr)) (fp : List Addr), DEx (X.blk s H scope (compEnvC scope cl C X.env) fp) (fun _ => E0) elt te)
    (hy : X.N[i]? = some y := by rfl) (hyl : X.env.scope.names.lookup y = some .local := by rfl) (hk : X.env.scope.kind = .function := by rfl) (hl : (py.line == pos.line) = true := by rfl)
    (ha : (scope.names.any fun (n, k) => n == y && (k == .local || k == .cell)) = false := by rfl) (hs : ∀ x, foldedSetIterable iter X.env x = pure x := by intro _; rfl) :
    DSx X E (.Assign [.Name y py] (.ListComp elt [⟨tg, iter, ifs, 0⟩] scope pos) spos) (dAsg (dLc o di (own.map (·.2)) dg tt te) (dName i)) := by
  obtain ⟨wi, p1, s1⟩ := hi
  refine ⟨_, ps_setLc (g := fun v σ H Q => ∀ s H0 C cl fp, (hg s H0 C cl fp).ex.choose v σ H Q) (tt := fun σ H Q => ∀ s H0 C cl fp, (ht s H0 C cl fp).ex.choose σ H Q) (te := fun σ H Q => ∀ s H0 C cl fp, (he s H0 C cl fp).ex.choose σ H Q) hc hN hy hyl (sw_true hk hyl hl ha) p1 ok
    (fun s H0 C cl fp => ⟨fun pins st σ H v u Q I r h => (hg s H0 C cl fp).ex.choose_spec.1.run pins st σ H v u Q I r (h s H0 C cl fp)⟩)
    (fun s H0 C cl fp => ⟨fun pins st σ H Q I h => (ht s H0 C cl fp).ex.choose_spec.1.run pins st σ H Q I (h s H0 C cl fp)⟩)
    (fun s H0 C cl fp => ⟨fun pins st σ H Q I h => (he s H0 C cl fp).ex.choose_spec.1.run pins st σ H Q I (h s H0 C cl fp)⟩) hs, sim_asg (sim_lc (E' := fun _ => E0) s1 ?_ ?_ ?_ ?_) sim_name⟩
  · exact fun S0 sl M σ H v d Q QD k r h l s H0 C cl fp => (hg s H0 C cl fp).ex.choose_spec.2.1 S0 sl M σ H v d Q QD k r h l
  · exact fun v σ H Q h s H0 C cl fp => (hg s H0 C cl fp).ex.choose_spec.2.2.1 v σ H Q (h s H0 C cl fp)
  · exact fun S0 sl M σ H Q QD ED k xl h l s H0 C cl fp => (ht s H0 C cl fp).ex.choose_spec.2 S0 sl M σ H Q QD ED k xl h l
  · exact fun S0 sl M σ H Q QD ED k xl h l s H0 C cl fp => (he s H0 C cl fp).ex.choose_spec.2 S0 sl M σ H Q QD ED k xl h l
end
end OD

/-! OD9: a def keeps its promise. -/
namespace OD
open PySem PySem.Spec L2

def startD (N : List Str) (ds : List D) : Slots := ds.map some ++ List.replicate (N.length - ds.length) none
theorem start_ok {K : PySem.W.Frag} {S0 : Mark} {M : Mem} {H : Hp} {N : List Str} {vs : List V} {ds : List D} (m : MemOk K S0 M H) (r : Reps K (SM S0 M) H vs ds) : Ok K S0 (startD N ds) M (L2.start N vs) H := by
  refine ⟨?_, fun i d e => ?_, m⟩
  · unfold startD L2.start
    rw [List.length_append, List.length_append, List.length_map, List.length_map, List.length_replicate, List.length_replicate, r.length]
  · unfold startD at e
    have hi : i < ds.length := by
      by_cases h : i < ds.length
      · exact h
      · rw [List.getElem?_append_right (by simpa using h), List.getElem?_replicate] at e
        split at e <;> cases e
    rw [List.getElem?_append_left (by simpa using hi), List.getElem?_map, List.getElem?_eq_getElem hi] at e
    cases e
    obtain ⟨v, e2, rv⟩ := r.get (List.getElem?_eq_getElem hi)
    refine ⟨v, ?_, rv⟩
    unfold L2.start
    have hv : i < vs.length := by rw [r.length]; exact hi
    rw [List.getElem?_append_left (by simpa using hv), List.getElem?_map, e2]
    rfl
theorem sub_keys2 {M M' : Mem} (h : M.Sublist M') : ∀ a, a ∈ keys M → a ∈ keys M' := fun a ha => by
  obtain ⟨e, he, rfl⟩ := List.mem_map.mp ha
  exact List.mem_map.mpr ⟨e, h.subset he, rfl⟩
theorem MemOk.sub {K : PySem.W.Frag} {S0 : Mark} {M M' : Mem} {H : Hp} (m : MemOk K S0 M' H) (h : M.Sublist M') : MemOk K S0 M H :=
  ⟨m.nd.sublist (h.map _), fun e he => (m.at_ e (h.subset he)).mono (fun b o eb n => ⟨eb, fun z => n (z.elim .inl fun z => .inr (sub_keys2 h b z))⟩) rfl, m.trk, fun a ha => m.dis a (sub_keys2 h a ha)⟩
theorem Ext.sub {M M1 M2 : Mem} {H H' : Hp} (x : Ext M H M1 H') (h : M2.Sublist M1) : Ext M H M2 H' := ⟨x.keep, fun b hb => x.new b (sub_keys2 h b hb), x.trk⟩
theorem Rep.sub {K : PySem.W.Frag} {S0 : Mark} {M M' : Mem} {H : Hp} {v : V} {d : D} (r : Rep K (SM S0 M') H v d) (h : M.Sublist M') : Rep K (SM S0 M) H v d :=
  Rep.mono (fun b o eb n => ⟨eb, fun z => n (z.elim .inl fun z => .inr (sub_keys2 h b z))⟩) d v r
/-- what a body must come to: some of the owned objects are let go -/
def Out (M : Mem) (QD : DK) : DK := fun d M' => ∃ M'' : Mem, M''.Sublist M' ∧ Pre M M'' ∧ QD d M''
def outs (M : Mem) (QD : DK) : DEnds := { nx := fun _ M' => Out M QD .non M', rt := Out M QD }
theorem Out.all {M M' : Mem} {QD : DK} {d : D} (p : Pre M M') (q : QD d M') : Out M QD d M' := ⟨M', List.Sublist.refl _, p, q⟩
theorem Out.none {M' : Mem} {QD : DK} {d : D} (q : QD d []) : Out [] QD d M' := ⟨[], List.nil_sublist _, rfl, q⟩
theorem Out.pre {M M1 M2 : Mem} {QD : DK} {d : D} (p : keys M1 = keys M) (q : QD d M1) : Out M QD d (M1 ++ M2) := by
  refine ⟨M1, List.sublist_append_left _ _, ?_, q⟩
  have hl : M1.length = M.length := by
    have := congrArg List.length p
    unfold keys at this
    rwa [List.length_map, List.length_map] at this
  unfold Pre
  rw [← hl, List.take_length, p]
section
variable {P : Program} {w : World} {K : PySem.W.Frag} {mg : Str → Option Value} {base : Heap} {x qual : Str} {st : Stmt} {f : Addr} {fd : FuncData} {N ps : List Str} {k : Nat} {F : FD} {td : DS}
/-- THE RULE for a def that lets nothing out -/
theorem fn_d (Fn : Fun K x qual st f fd) (S : FnScope N ps (defScope st)) (hlen : ∀ ds M ED QD, F ds M ED QD → ds.length = ps.length)
    (hder : ∀ (cdv : Value) (A : Around) (outer : List Env) (s : Shared) (H : Hp) (E : XK), Room k (A.deeper (PyProof.Rows.envOfC qual (defScope st) s.heap.objs.size f cdv)) →
      DBx (cxOf CX0 P w K mg base N qual (defScope st) f cdv A outer s H E).nox (fun _ => E0) (defBody st) td)
    (hrd : ∀ ds M ED QD, F ds M ED QD → td (outs M QD) (startD N ds) M) : FnOk P w K mg base CX0 (k + 1) f fd ps (spD K F) := by
  refine Fn.ok S (fun vs H Q E h => ?_) (fun cdv A outer s H vs Q E hr h => ?_)
  · obtain ⟨S0, ds, M, QD, ED, m, r, h, _⟩ := h
    rw [r.length]
    exact hlen _ _ _ _ h
  · obtain ⟨S0, ds, M, QD, ED, m, r, h, lq, _⟩ := h
    obtain ⟨t, p, s'⟩ := (hder cdv A outer s H E hr).ex
    refine ⟨t, p, s' S0 (startD N ds) M (L2.start N vs) H (outs M QD) _ (start_ok m r) ⟨fun sl' M' σ' H' k' x' h' => ?_, fun d M' v H' m' x' r' h' => ?_, fun _ _ _ _ _ _ z => z.elim, fun _ _ _ _ _ _ z => z.elim, fun _ _ _ _ _ _ => XL.no⟩ (hrd ds M ED QD h)⟩
    · obtain ⟨M2, sb, pr, q⟩ := h'
      exact lq .non M2 .non H' (k'.mem.sub sb) (x'.sub sb) pr .non q
    · obtain ⟨M2, sb, pr, q⟩ := h'
      exact lq d M2 v H' (m'.sub sb) (x'.sub sb) pr (r'.sub sb) q
/-- a def of the top keeps its promise at whatever place it stands -/
structure DefOk (P : Program) (w : World) (K : PySem.W.Frag) (mg : Str → Option Value) (base : Heap) (k : Nat) (x : Str) (ps : List Str) (F : FD) : Prop where
  ex : ∃ (f : Addr) (fd : FuncData), mg x = some (.ref f) ∧ PySem.W.keepIn K (.ref f) = true ∧ Binds K fd ps [] ∧ FnOk P w K mg base CX0 k f fd ps (spD K F)
theorem DefOk.of (Fn : Fun K x x st f fd) (m : mg x = some (.ref f)) (b : Binds K fd ps []) (S : FnScope N ps (defScope st)) (hlen : ∀ ds M ED QD, F ds M ED QD → ds.length = ps.length)
    (hder : ∀ (cdv : Value) (A : Around) (outer : List Env) (s : Shared) (H : Hp) (E : XK), Room k (A.deeper (PyProof.Rows.envOfC x (defScope st) s.heap.objs.size f cdv)) →
      DBx (cxOf CX0 P w K mg base N x (defScope st) f cdv A outer s H E).nox (fun _ => E0) (defBody st) td)
    (hrd : ∀ ds M ED QD, F ds M ED QD → td (outs M QD) (startD N ds) M) : DefOk P w K mg base (k + 1) x ps F :=
  ⟨f, fd, m, Fn.kp, b, fn_d Fn S hlen hder hrd⟩
/-- a def that is never called but as the law -/
def spLaw (K : PySem.W.Frag) : Sp := fun vs H Q _ => ∃ (a : Addr) (ns : List Int), vs = [.ref a] ∧ SqL K H a (ns.map V.int) ∧ ns.length ≤ 63 ∧ ∀ H', Q (.bl true) H'
def fdLaw : FD := fun ds M _ Q => ∃ ns : List Int, ds = [.scr ns] ∧ M = [] ∧ ns.length ≤ 63 ∧ Q (.bl true) []
theorem fdLaw_len : ∀ ds M ED QD, fdLaw ds M ED QD → ds.length = 1 := fun ds M ED QD ⟨ns, e, _⟩ => by rw [e]; rfl
theorem law_ok (h : FnOk P w K mg base CX0 k f fd ps (spD K fdLaw)) : FnOk P w K mg base CX0 k f fd ps (spLaw K) := h.imp fun vs H Q E ⟨a, ns, e, hs, hl, q⟩ => by
  subst e
  have m0 : MemOk K (fun _ => False) [] H := ⟨List.nodup_nil, fun e h => (List.not_mem_nil h).elim, fun a h => h.elim, fun a h => (List.not_mem_nil h).elim⟩
  refine ⟨fun _ => False, [.scr ns], [], fun d _ => d = .bl true, fun _ _ _ => False, m0, .one (.scr ?_), ⟨ns, rfl, rfl, hl, rfl⟩, fun d M' v H' m x p r e => ?_, fun _ _ _ _ _ _ _ _ _ z => z.elim⟩
  · rcases hs with hs | hs
    · exact .inl ⟨fun z => z.elim _root_.id fun z => (List.not_mem_nil z).elim, hs⟩
    · exact .inr hs
  · subst e
    cases r
    exact q H'
end
section
variable {X : Cx} {E : L2.St → XK} {a : Expr} {es : List Expr} {pos p : Pos} {dr : DA} {F : FD} {x : Str} {ps : List Str} {k : Nat}
theorem de_callD (c : DefOk X.prog X.w X.K X.mg X.base k x ps F) (hr : Room k X.A) (ks : List Nat) (ha : DAx X E (a :: es) dr) (hk : ks.Nodup := by decide) (hg : Gl X x := by rfl) (hdb : (x == ("__debug__" : Str)) = false := by decide)
    (he : starEach (a :: es) X.env = (false, eval a X.env) :: starEach es X.env := by rfl) (hpl : (backTo pos (starEach es X.env)).any (·.1) = false := by rfl) : DEx X E (.Call (.Name x p) (a :: es) [] pos) (dCall0 F ks dr) := by
  obtain ⟨f, fd, m, kp, b, G⟩ := c
  exact de_call G hr m kp b ks ha hk hg hdb he hpl
theorem de_callD0 (c : DefOk X.prog X.w X.K X.mg X.base k x ps F) (hr : Room k X.A) (ks : List Nat) (hk : ks.Nodup := by decide) (hg : Gl X x := by rfl) (hdb : (x == ("__debug__" : Str)) = false := by decide) : DEx X E (.Call (.Name x p) [] [] pos) (dCall0 F ks dNil) := by
  obtain ⟨f, fd, m, kp, b, G⟩ := c
  exact de_call0 G hr m kp b ks hk hg hdb
end
end OD

/-! OD10: a call of what an expression gives. -/
namespace OD
open PySem PySem.Spec L2
/-- a def that is known by its address -/
structure HeldD (P : Program) (w : World) (K : PySem.W.Frag) (mg : Str → Option Value) (base : Heap) (k : Nat) (f : Addr) (F : FD) : Prop where
  ex : ∃ (fd : FuncData) (ps : List Str), FnOk P w K mg base CX0 k f fd ps (spD K F) ∧ PySem.W.keepIn K (.ref f) = true ∧ Binds K fd ps []
def tCallE (K : PySem.W.Frag) (tf : TE) (S : Addr → FD → Prop) (t : TA) : TE := fun σ H Q => tf σ H fun v H1 => ∃ f F, v = .ref f ∧ S f F ∧ t σ H1 fun vs H2 => spD K F vs H2 Q E0
def dCallE (df : DE) (S : Addr → FD → Prop) (ks : List Nat) (dr : DA) : DE := fun sl M ED Q => df sl M ED fun d M1 => ∃ f F, d = .ref f ∧ S f F ∧ dr sl M1 ED fun ds M2 => (sel ks M2).length = ks.length ∧ F ds (sel ks M2) (fun _ _ _ => False) fun d Mc => Q d (putM ks M2 Mc)
section
variable {X : Cx} {E : L2.St → XK} {K : PySem.W.Frag} {fe a e : Expr} {es : List Expr} {pos p : Pos} {df di : DE} {dr : DA} {S : Addr → FD → Prop} {ks : List Nat} {k : Nat} {tf : TE} {t : TA}
theorem pe_callE (A : ∀ f F, S f F → HeldD X.prog X.w X.K X.mg X.base k f F) (hr : Room k X.A) (hf : PE X fe tf) (ha : PA X (e :: es) t)
    (ht : eval (.Call fe (e :: es) [] pos) X.env = (do callWith pos (← eval fe X.env) [] (backTo pos (starEach (e :: es) X.env)) (backToKw pos (keywordEach [] X.env))) := by rfl)
    (he : starEach (e :: es) X.env = (false, eval e X.env) :: starEach es X.env := by rfl) (hpl : (backTo pos (starEach es X.env)).any (·.1) = false := by rfl) : PE X (.Call fe (e :: es) [] pos) (tCallE X.K tf S t) := by
  refine ⟨fun pins s σ H Q I h => ?_⟩
  refine PyProof.Rows.Call_ (thn (hf.run pins s σ H _ I h) fun u s1 ⟨y, H1, I1, ry, f, F, ey, hS, q⟩ => ?_) ht
  subst ey
  obtain rfl : u = Value.ref f := ry
  obtain ⟨fd, ps, G, hk, hb⟩ := (A f F hS).ex
  refine PySem.W.callWith_K (h₀ := X.base) I1.ok.mod.kin hk (thn (ha.run pos pins s1 σ _ _ I1 q) fun us s2 ⟨vs, H2, I2, r, q⟩ => ⟨I2.kIn, ?_⟩) he hpl
  exact run_fn (dvs := []) G hr hb .nil pass0 I2 r (by rw [List.append_nil]; exact q)
theorem sim_callE (hk : ks.Nodup) (sf : SimE K E tf df) (s : SimA K E t dr) : SimE K E (tCallE K tf S t) (dCallE df S ks dr) := by
  intro S0 sl M σ H Q QD ED k xl hd l
  refine sf S0 sl M σ H _ _ ED k xl hd fun d M1 v H1 m1 x1 r1 q1 => ?_
  obtain ⟨f, F, rfl, hS, q1⟩ := q1
  cases r1
  refine ⟨f, F, rfl, hS, s S0 sl M1 σ H1 _ _ ED (k.ext m1 x1) (xl.ext x1) q1 fun ds M2 vs H2 m2 x2 r2 q2 => ?_⟩
  obtain ⟨hl, q⟩ := q2
  refine ⟨mk0 S0 ks M2, ds, sel ks M2, _, _, m2.sel hk, by rw [mk0_sm]; exact r2, q, fun d M' v H' m' x' pr r' q' => ?_, fun cls fs M' dd H' m' x' pr r' q' => q'.elim⟩
  obtain ⟨g1, g2, g3⟩ := put_back m2 hk hl m' x' pr
  exact l d _ v H' g1 ((x1.trans x2).trans g2) (by rw [g3]; exact r') q'
theorem de_callE (A : ∀ f F, S f F → HeldD X.prog X.w X.K X.mg X.base k f F) (hr : Room k X.A) (hf : DEx X E fe df) (ks : List Nat) (ha : DAx X E (a :: es) dr) (hk : ks.Nodup := by decide)
    (ht : eval (.Call fe (a :: es) [] pos) X.env = (do callWith pos (← eval fe X.env) [] (backTo pos (starEach (a :: es) X.env)) (backToKw pos (keywordEach [] X.env))) := by rfl)
    (he : starEach (a :: es) X.env = (false, eval a X.env) :: starEach es X.env := by rfl) (hpl : (backTo pos (starEach es X.env)).any (·.1) = false := by rfl) : DEx X E (.Call fe (a :: es) [] pos) (dCallE df S ks dr) := by
  obtain ⟨tf, pf, sf⟩ := hf
  obtain ⟨t, pa, s⟩ := ha
  exact ⟨_, pe_callE A hr pf pa ht he hpl, sim_callE hk sf s⟩
theorem DEx.weak {d d' : DE} (h : DEx X E a d) (w : ∀ sl M ED Q, d' sl M ED Q → d sl M ED Q) : DEx X E a d' := by
  obtain ⟨t, p, s⟩ := h
  exact ⟨t, p, fun S0 sl M σ H Q QD ED k xl hd l => s S0 sl M σ H Q QD ED k xl (w _ _ _ _ hd) l⟩
/-- [f, g, h][i](..), i a name -/
def dPick3 (Fa Fb Fc : FD) (ks : List Nat) (i : Nat) (dr : DA) : DE := fun sl M ED Q => ∃ F : FD, ((sl[i]? = some (some (.int 0)) ∧ F = Fa) ∨ (sl[i]? = some (some (.int 1)) ∧ F = Fb) ∨ (sl[i]? = some (some (.int 2)) ∧ F = Fc)) ∧
  dr sl M ED fun ds M2 => (sel ks M2).length = ks.length ∧ F ds (sel ks M2) (fun _ _ _ => False) fun d Mc => Q d (putM ks M2 Mc)
theorem de_pick3 {xa xb xc : Str} {pa pb pc lpos spos : Pos} {psa psb psc : List Str} {Fa Fb Fc : FD} {ie : Expr} {i : Nat} (ca : DefOk X.prog X.w X.K X.mg X.base k xa psa Fa) (cb : DefOk X.prog X.w X.K X.mg X.base k xb psb Fb) (cc : DefOk X.prog X.w X.K X.mg X.base k xc psc Fc)
    (hu : X.A.units + 64 < cLine) (hr : Room k X.A) (hi : DEx X E ie (dVar i)) (ks : List Nat) (ha : DAx X E (a :: es) dr) (hk : ks.Nodup := by decide)
    (ga : Gl X xa := by rfl) (gb : Gl X xb := by rfl) (gc : Gl X xc := by rfl) (da : (xa == ("__debug__" : Str)) = false := by decide) (db : (xb == ("__debug__" : Str)) = false := by decide) (dc : (xc == ("__debug__" : Str)) = false := by decide)
    (hs : PlainIx ie := by exact fun _ _ => rfl)
    (ht : eval (.Call (.Subscript (.List [.Name xa pa, .Name xb pb, .Name xc pc] lpos) ie spos) (a :: es) [] pos) X.env = (do callWith pos (← eval (.Subscript (.List [.Name xa pa, .Name xb pb, .Name xc pc] lpos) ie spos) X.env) [] (backTo pos (starEach (a :: es) X.env)) (backToKw pos (keywordEach [] X.env))) := by rfl)
    (he : starEach (a :: es) X.env = (false, eval a X.env) :: starEach es X.env := by rfl) (hpl : (backTo pos (starEach es X.env)).any (·.1) = false := by rfl) :
    DEx X E (.Call (.Subscript (.List [.Name xa pa, .Name xb pb, .Name xc pc] lpos) ie spos) (a :: es) [] pos) (dPick3 Fa Fb Fc ks i dr) := by
  obtain ⟨fa, fda, ma, ka, ba, Ga⟩ := ca
  obtain ⟨fb, fdb, mb, kb, bb, Gb⟩ := cb
  obtain ⟨fc, fdc, mc, kc, bc, Gc⟩ := cc
  refine (de_callE (S := fun f F => (f = fa ∧ F = Fa) ∨ (f = fb ∧ F = Fb) ∨ (f = fc ∧ F = Fc)) (fun f F h => ?_) hr
    (de_ix hu (de_lst false (da_cons (de_glob (v := .ref fa) (d := .ref fa) ga ma rfl (fun _ _ => .ref _) da) (da_cons (de_glob (v := .ref fb) (d := .ref fb) gb mb rfl (fun _ _ => .ref _) db) (da_cons (de_glob (v := .ref fc) (d := .ref fc) gc mc rfl (fun _ _ => .ref _) dc) da_nil)))) hi hs) ks ha hk ht he hpl).weak ?_
  · rcases h with ⟨rfl, rfl⟩ | ⟨rfl, rfl⟩ | ⟨rfl, rfl⟩
    · exact ⟨_, _, Ga, ka, ba⟩
    · exact ⟨_, _, Gb, kb, bb⟩
    · exact ⟨_, _, Gc, kc, bc⟩
  · rintro sl M ED Q ⟨F, h, q⟩
    have h3 : (3 : Nat) ≤ sizeLine := by decide
    rcases h with ⟨e, rfl⟩ | ⟨e, rfl⟩ | ⟨e, rfl⟩
    · exact ⟨h3, _, e, _, atI_nat (j := 0) rfl, _, _, rfl, .inl ⟨rfl, rfl⟩, q⟩
    · exact ⟨h3, _, e, _, atI_nat (j := 1) rfl, _, _, rfl, .inr (.inl ⟨rfl, rfl⟩), q⟩
    · exact ⟨h3, _, e, _, atI_nat (j := 2) rfl, _, _, rfl, .inr (.inr ⟨rfl, rfl⟩), q⟩
end
end OD

/-! OD12: enumerate of a list or a tuple. -/
namespace OD
open PySem PySem.Spec L2 PyProof.Rows
theorem drawsT {q : Program} {w : World} {B : Around} (hB : B.handled = none) (j t : Addr) (ne : t ≠ j) (vs : Array Value) :
    Draws q w B j [j, t] vs.size (fun i v => vs[i]? = some v) (fun i h => h.IsTupleIter j t i ∧ h.IsTuple t vs) where
  live := fun _ _ z => let ⟨o, e, _⟩ := z.1; ⟨o, e⟩
  frame := fun _ _ _ z f => ⟨z.1.at fun o e => f j (by simp) o e, z.2.at fun o e => f t (by simp) o e⟩
  item := fun i s Q E hi z hQ => wpAny_nextOf_tuple_item z.1 z.2 (x := vs[i]) (by simp [hi]) fun h' z' sb => hQ _ h' s.toks (by simp [hi]) ⟨z', z.2.extBut sb.extBut ne⟩ sb
  done := fun s Q E z hE => wpAny_nextOf_tuple_end hB z.1 z.2 (by simp) hE
theorem drawsEnd {q : Program} {w : World} {B : Around} (hB : B.handled = none) (j t : Addr) (vs : Array Value) (i : Nat) (hx : vs[i]? = none) :
    Draws q w B j [j, t] 0 (fun _ _ => False) (fun _ h => h.IsTupleIter j t i ∧ h.IsTuple t vs) where
  live := fun _ _ z => let ⟨o, e, _⟩ := z.1; ⟨o, e⟩
  frame := fun _ _ _ z f => ⟨z.1.at fun o e => f j (by simp) o e, z.2.at fun o e => f t (by simp) o e⟩
  item := fun i s Q E hi _ _ => absurd hi (Nat.not_lt_zero _)
  done := fun s Q E z hE => wpAny_nextOf_tuple_end hB z.1 z.2 hx hE
section
variable {q : Program} {w : World} {B : Around} {E : Value → Shared → Prop} {s : Shared}
/-- the two objects that enumerate lays for a tuple -/
abbrev tupIt (t : Addr) : Obj := { cls := .type "tuple_iterator", data := .fields #[.ref t, .int 0 0] }
abbrev enumOb (j : Addr) : Obj := { cls := .type "enumerate", data := .fields #[.none, .bool false, .ref j, rawInt 0, .none, .none] }
theorem new_enumT (t : Addr) (vs : Array Value) (n : Nat) (dd : Option Addr) (zs : Array (Option Value)) :
    Meets (Builtin.«enumerate.__new__» ⟨[.type "enumerate", .ref t], []⟩) (fun _ R u => u.heap.get? t = some { cls := .type "tuple", dict := dd, data := .seq vs n, slots := zs } ∧
      R (.ok (.ret (.ref (u.heap.push (tupIt t)).objs.size))) { u with heap := (u.heap.push (tupIt t)).push (enumOb u.heap.objs.size) }) :=
  .of_wp fun prog w A R u k => by
    obtain ⟨hp, g, d, tk, os⟩ := u; obtain ⟨ht, k⟩ := k
    have su := sub_enumerate
    have hT : Heap.IsTuple (Shared.heap ⟨hp, g, d, tk, os⟩) t vs := ⟨_, ht, rfl, n, rfl⟩
    wp_walk using AutoSeq1.wpAny_loadPart' ht
    refine wpAny_stack_any fun z => wpAny_pure ?_
    split
    · rename_i c _ _ _ _ _
      cases (c == Value.type "enumerate")
      · wp_walk using AutoSeq1.wpAny_loadPart' ht, wpAny_pyIter_tuple hT
        exact ⟨_, rfl, k⟩
      · wp_walk using AutoSeq1.wpAny_loadPart' ht, wpAny_pyIter_tuple hT
        exact ⟨_, rfl, k⟩
    · wp_walk using AutoSeq1.wpAny_loadPart' ht, wpAny_pyIter_tuple hT
      exact ⟨_, rfl, k⟩
theorem call_enumT {t : Addr} {vs : Array Value} {Q : Value → Shared → Prop} (hT : s.heap.IsTuple t vs)
    (k : ∀ h', IsEnum h' (s.heap.objs.size + 1) s.heap.objs.size 0 .none → h'.IsTupleIter s.heap.objs.size t 0 → h'.objs.size = s.heap.objs.size + 2 → (∀ b o, s.heap.get? b = some o → h'.get? b = some o) → Q (.ref (s.heap.objs.size + 1)) { s with heap := h' }) :
    wpAny (model q w) B (call (.type "enumerate") [.ref t]) Q E s := by
  obtain ⟨⟨c, dd, dt, zs⟩, ht, hc, n, hd⟩ := hT
  have hc : c = .type "tuple" := hc
  have hd : dt = .seq vs n := hd
  subst hc; subst hd
  have hz : (s.heap.push (tupIt t)).objs.size = s.heap.objs.size + 1 := Heap.size_push ..
  have he : IsEnum ((s.heap.push (tupIt t)).push (enumOb s.heap.objs.size)) (s.heap.objs.size + 1) s.heap.objs.size 0 .none := by
    have z := Heap.get?_push_size (s.heap.push (tupIt t)) (o := enumOb s.heap.objs.size) rfl
    rw [hz] at z
    exact z
  refine callType_new F.called_enumerate (by decide) (F.typeCall_enumerate_1 _) (F.newCall_enumerate_1 _)
    (fun obj => F.args_object_init_2 obj _) F.entry_enumerate_new (new_enumT t vs n dd zs) ⟨ht, ?_⟩
  show _ ∧ _
  rw [hz]
  exact ⟨⟨_, he, rfl⟩, k _ he ⟨_, Heap.get?_push_of_some _ (Heap.get?_push_size _ rfl), rfl, rfl⟩ (by rw [Heap.size_push, hz]) fun b o x => Heap.get?_push_of_some _ (Heap.get?_push_of_some _ x)⟩
end
/-- the tuple at a, each item in a new pair -/
def ItEt (K : PySem.W.Frag) (a : Addr) : It :=
  ⟨fun i H => ∃ (xs : List V) (x : V), SqT K H a xs ∧ xs[i]? = some x, fun i H v H' => ∃ T x, v = .ref T ∧ H T = none ∧ H' = upd H T (.tup [.int (i : Nat), x]) ∧ ∀ xs, SqT K H a xs → xs[i]? = some x, fun i H => ∃ xs : List V, SqT K H a xs ∧ xs.length ≤ i⟩
theorem turn_enumT {P : Program} {w : World} {K : PySem.W.Frag} {elts : List Expr} {kk : Nat} {tpos : Pos} (a e j : Addr) :
    Turn P w K (.Tuple elts kk tpos) (ItEt K a) [e, j] e (fun i h => (∃ old, IsEnum h e j ((i : Nat) : Int) old) ∧ h.IsTupleIter j a i ∧ e ≠ j) where
  mem := by simp
  obj := fun i h z b hb => by
    obtain ⟨⟨old, he⟩, ⟨o, ho, hc, hd⟩, _⟩ := z
    have eb : b = e ∨ b = j := by simpa using hb
    rcases eb with rfl | rfl
    · exact ⟨_, he, fun v q => nomatch q⟩
    · exact ⟨o, ho, fun v q => by rw [hd] at q; cases q⟩
  keep := fun i h h' z f => let ⟨⟨old, he⟩, hi, ne⟩ := z; ⟨⟨old, f e (by simp) _ he⟩, hi.at fun o q => f j (by simp) o q, ne⟩
  item := by
    intro X hP hw hK hc i pins s σ H E I hf z hg
    subst hP hw hK
    obtain ⟨⟨old, he⟩, hit, ne⟩ := z
    obtain ⟨xs, x, hq, hx⟩ := hg
    obtain ⟨us, rv, p, hz⟩ := I.tuple hq
    have pT : s.heap.IsTuple a us.toArray := p
    have l1 : e < s.heap.objs.size := Heap.lt_size he
    have l2 : j < s.heap.objs.size := by obtain ⟨_, y, _⟩ := hit; exact Heap.lt_size y
    have hlt : i < us.toArray.size := by
      have := (List.getElem?_eq_some_iff.mp hx).1
      rw [List.size_toArray, ← rv.length]
      exact this
    have haj : a ≠ j := fun y => by
      subst y
      obtain ⟨o, h1, c1, _⟩ := hit
      obtain ⟨o', h2, c2, _⟩ := pT
      rw [h1] at h2
      cases h2
      rw [c1] at c2
      injection c2 with y
      exact absurd y (by decide)
    have hea : e ≠ a := fun y => by
      subst y
      obtain ⟨o', h2, c2, _⟩ := pT
      rw [show s.heap.get? e = _ from he] at h2
      cases h2
      injection c2 with y
      exact absurd y (by decide)
    refine wpAny_pyNext_enum_itemD (drawsT (by first | exact I.ok.hd hc | exact (I.ok.hd hc)) j a haj us.toArray) he ⟨hit, pT⟩ hlt ne (by
      intro y
      rcases List.mem_cons.mp y with y | y
      · exact ne y
      · exact hea (by simpa using y)) fun u h' tk hu ho hst hT hsz hk => ?_
    obtain ⟨hit', _⟩ := hst
    have ru : RelV x u := by
      obtain ⟨u', hu', ru⟩ := rv.get hx
      have e1 : us[i]? = some u := by simpa using hu
      rw [e1] at hu'
      cases hu'
      exact ru
    refine ⟨_, rfl, wpAny_letOwnedTupleGo_enum (s := { s with heap := h', toks := tk + 1 }) ho fun h2 he2 sb => ?_⟩
    have hT2 : h2.get? s.heap.objs.size = some { cls := .type "tuple", data := .seq #[.int i tk, u] } := (sb.2 _ (Nat.ne_of_gt l1)).trans hT
    have nw : ObjOk X.prog X.w (upd H s.heap.objs.size (.tup [.int (i : Nat), x])) h2 s.heap.objs.size (.tup [.int (i : Nat), x]) :=
      ⟨(by decide : 2 ≤ sizeLine), [.int i tk, u], .cons ⟨_, rfl⟩ (.cons ru .nil), ⟨_, hT2, rfl, _, rfl⟩⟩
    have I1 : Inv X pins σ (upd H s.heap.objs.size (.tup [.int (i : Nat), x])) { s with heap := h2, toks := tk + 1 } :=
      I.turnedNew (ch := [e, j]) (fun b o hb y => (sb.2 b (fun r => hb (by simp [r]))).trans (hk b o (fun r => hb (by simp [r])) (fun r => hb (by simp [r])) y)) hf (Nat.le_refl _) nw
    refine ⟨.ref s.heap.objs.size, _, I1, rfl, ⟨_, x, rfl, I.hok.fresh (Nat.le_refl _), rfl, fun ys hy => by rw [I.tuple_inj hy hq]; exact hx⟩, ⟨⟨u, ?_⟩, hit'.at fun o y => (sb.2 j (Ne.symm ne)).trans y, ne⟩, fun b hb => ?_⟩
    · rw [show ((i + 1 : Nat) : Int) = (i : Int) + 1 by omega]
      exact he2
    · have eb : b = e ∨ b = j := by simpa using hb
      have lb : b < s.heap.objs.size := by rcases eb with r | r <;> rw [r] <;> assumption
      rw [upd_ne (Nat.ne_of_lt lb)]
      exact (hf b hb).1
  done := by
    intro X hP hw hK hc i pins s σ H E I hf z hg
    subst hP hw hK
    obtain ⟨⟨old, he⟩, hit, ne⟩ := z
    obtain ⟨xs, hq, hx⟩ := hg
    obtain ⟨us, rv, p, hz⟩ := I.tuple hq
    have pT : s.heap.IsTuple a us.toArray := p
    obtain ⟨f0, f1, f2, f3, f4, f5⟩ := hf j (by simp)
    have haj : a ≠ j := fun y => by
      subst y
      obtain ⟨o, h1, c1, _⟩ := hit
      obtain ⟨o', h2, c2, _⟩ := pT
      rw [h1] at h2
      cases h2
      rw [c1] at c2
      injection c2 with y
      exact absurd y (by decide)
    have hl := rv.length
    exact wpAny_pyNext_enum_endD (drawsEnd (B := X.A.in1) (by exact I.ok.hd hc) j a us.toArray i (by simp; omega)) he ⟨hit, pT⟩ fun h' eb => ⟨rfl, I.turned (t' := s.toks) (fun b o hb y => eb b o hb y) f0 f1 f3 f4 f5⟩
  self := fun A i s Q E z h => let ⟨⟨_, he⟩, _⟩ := z; wpAny_pyIter_enum he h
/-! over data -/
def iEnumA (K : PySem.W.Frag) (ta : TA) : TI := fun σ H R => ta σ H fun vs H1 => ∃ a, vs = [.ref a] ∧ ((∃ xs, SqL K H1 a xs ∧ R (Ite K a) H1) ∨ ∃ xs, SqT K H1 a xs ∧ R (ItEt K a) H1)
theorem pi_enumA {X : Cx} {e : Expr} {ta : TA} {p pos tpos : Pos} {elts : List Expr} {kk : Nat} (hm : X.mg "enumerate" = none) (ha : PA X [e] ta) (hg : Gl X "enumerate") (hs : starEach [e] X.env = [(false, eval e X.env)]) :
    PI X (.Tuple elts kk tpos) (.Call (.Name "enumerate" p) [e] [] pos) (iEnumA X.K ta) := by
  refine ⟨fun pins s σ H R I h => ?_⟩
  refine Call_ (ld_blt I hg hm boot_enumerate (callWith_type1 (thn (ha.run pos pins s σ H _ I h) fun us s1 ⟨vs, H1, I1, r1, a, ev, q1⟩ => ?_) hs rfl))
  subst ev
  cases r1 with
  | cons r rr =>
    cases rr
    cases r
    have fp : ∀ b ∈ [s1.heap.objs.size + 1, s1.heap.objs.size], s1.heap.objs.size ≤ b := fun b hb => by
      have e' : b = s1.heap.objs.size + 1 ∨ b = s1.heap.objs.size := by simpa using hb
      rcases e' with z | z <;> omega
    rcases q1 with ⟨xs, hq, q⟩ | ⟨xs, hq, q⟩
    · obtain ⟨its, rv, p', hz⟩ := I1.list hq
      refine call_enumerate_list p'.isList fun h' he hit hsz hk => wpAny_pyIter_enum he ?_
      exact ⟨s1.heap.objs.size + 1, [s1.heap.objs.size + 1, s1.heap.objs.size], _, _, H1, rfl, I1.kept (t' := s1.toks) hk, turn_enum a _ _, ⟨⟨.none, he⟩, hit, Nat.succ_ne_self _⟩, fun b hb => I1.fpOk (fp b hb) (I1.hok.fresh (fp b hb)), q⟩
    · obtain ⟨its, rv, p', hz⟩ := I1.tuple hq
      refine call_enumT (show s1.heap.IsTuple a its.toArray from p') fun h' he hit hsz hk => wpAny_pyIter_enum he ?_
      exact ⟨s1.heap.objs.size + 1, [s1.heap.objs.size + 1, s1.heap.objs.size], _, _, H1, rfl, I1.kept (t' := s1.toks) hk, turn_enumT a _ _, ⟨⟨.none, he⟩, hit, Nat.succ_ne_self _⟩, fun b hb => I1.fpOk (fp b hb) (I1.hok.fresh (fp b hb)), q⟩
def itEnum (xs : List D) (gd : Mem → Prop) : Itm := ⟨xs.length, fun i => .tup [.int (i : Nat), (xs[i]?).getD .non], gd⟩
theorem itRep_enum {K : PySem.W.Frag} {S0 : Mark} {M : Mem} {H : Hp} {a : Addr} {xs : List D} {gd : Mem → Prop} (hg : ∀ (S1 : Mark) (M' : Mem) (H' : Hp), Mk S0 H S1 → MemOk K S1 M' H' → Ext M H M' H' → gd M' → ∃ vs, SqL K H' a vs ∧ Reps K (SM S1 M') H' vs xs) : ItRep K S0 M H (Ite K a) (itEnum xs gd) := by
  intro S1 M' H' mk m x g
  obtain ⟨vs, h1, h2⟩ := hg S1 M' H' mk m x g
  refine ⟨fun i hi => ?_, vs, h1, by rw [h2.length]; exact Nat.le_refl _⟩
  have hi' : i < xs.length := hi
  obtain ⟨v, e, r⟩ := h2.get (List.getElem?_eq_getElem hi')
  refine ⟨⟨vs, v, h1, e⟩, fun y H'' hy => ?_⟩
  obtain ⟨T, z, rfl, hT, rfl, f⟩ := hy
  have := f vs h1
  rw [e] at this
  cases this
  have m2 : MemOk K S1 M' (upd H' T (.tup [.int (i : Nat), v])) := m.new_imm hT
  have x2 : Ext M' H' M' (upd H' T (.tup [.int (i : Nat), v])) := .new_imm hT
  refine ⟨m2, x2, ?_⟩
  show Rep K _ _ _ (.tup [.int (i : Nat), (xs[i]?).getD .non])
  rw [List.getElem?_eq_getElem hi']
  exact .tup (.inl ⟨m.free hT, upd_same⟩) (.cons (.int _) (.cons (r.ext x2) .nil))
theorem itRep_enumT {K : PySem.W.Frag} {S0 : Mark} {M : Mem} {H : Hp} {a : Addr} {xs : List D} {gd : Mem → Prop} (hg : ∀ (S1 : Mark) (M' : Mem) (H' : Hp), Mk S0 H S1 → MemOk K S1 M' H' → Ext M H M' H' → gd M' → ∃ vs, SqT K H' a vs ∧ Reps K (SM S1 M') H' vs xs) : ItRep K S0 M H (ItEt K a) (itEnum xs gd) := by
  intro S1 M' H' mk m x g
  obtain ⟨vs, h1, h2⟩ := hg S1 M' H' mk m x g
  refine ⟨fun i hi => ?_, vs, h1, by rw [h2.length]; exact Nat.le_refl _⟩
  have hi' : i < xs.length := hi
  obtain ⟨v, e, r⟩ := h2.get (List.getElem?_eq_getElem hi')
  refine ⟨⟨vs, v, h1, e⟩, fun y H'' hy => ?_⟩
  obtain ⟨T, z, rfl, hT, rfl, f⟩ := hy
  have := f vs h1
  rw [e] at this
  cases this
  have m2 : MemOk K S1 M' (upd H' T (.tup [.int (i : Nat), v])) := m.new_imm hT
  have x2 : Ext M' H' M' (upd H' T (.tup [.int (i : Nat), v])) := .new_imm hT
  refine ⟨m2, x2, ?_⟩
  show Rep K _ _ _ (.tup [.int (i : Nat), (xs[i]?).getD .non])
  rw [List.getElem?_eq_getElem hi']
  exact .tup (.inl ⟨m.free hT, upd_same⟩) (.cons (.int _) (.cons (r.ext x2) .nil))
def enumI (w : D) (gd : Mem → Prop) (M : Mem) (RD : Itm → Mem → Prop) : Prop := match w with
  | .lst xs => RD (itEnum xs gd) M
  | .tup xs => RD (itEnum xs gd) M
  | .scr ns => RD (itEnum (ns.map .int) gd) M
  | _ => False
def diEnum (dr : DA) : DI := fun sl M ED RD => dr sl M ED fun ds M1 => ∃ d, ds = [d] ∧ vwG M1 d fun w gd => enumI w gd M1 RD
theorem di_enum {X : Cx} {E : L2.St → XK} {a : Expr} {dr : DA} {p pos tpos : Pos} {elts : List Expr} {kk : Nat} (hm : X.mg "enumerate" = none) (ha : DAx X E [a] dr) (hg : Gl X "enumerate" := by rfl) (hs : starEach [a] X.env = [(false, eval a X.env)] := by rfl) :
    DIx X E (.Tuple elts kk tpos) (.Call (.Name "enumerate" p) [a] [] pos) (diEnum dr) := by
  obtain ⟨t, q, s⟩ := ha
  refine ⟨_, pi_enumA hm q hg hs, fun S0 sl M σ H R RD ED k xl hd l => s S0 sl M σ H _ _ ED k xl hd fun ds M1 vs H1 m1 x1 r1 q1 => ?_⟩
  obtain ⟨d, rfl, q1⟩ := q1
  cases r1 with
  | cons r1 rr =>
  cases rr
  rename_i v
  have imm : ∀ w, Rep X.K (SM S0 M1) H1 v w → enumI w (fun _ => True) M1 RD → ∃ a, [v] = [V.ref a] ∧ ((∃ xs, SqL X.K H1 a xs ∧ R (Ite X.K a) H1) ∨ ∃ xs, SqT X.K H1 a xs ∧ R (ItEt X.K a) H1) := fun w r q => by
    cases w with
    | lst xs =>
      cases r with
      | lst h1 h2 h3 => exact ⟨_, rfl, .inl ⟨_, .inl (.inl h2), l _ M1 _ H1 m1 x1 (itRep_enum fun S1 M' H' mk m x g => ⟨_, .inl (.inl (x.keep _ _ h2 fun z => h1 (.inr z))), Reps.mono (x.kpM mk) _ _ h3⟩) q⟩⟩
    | scr ns =>
      cases r with
      | scr h1 => exact ⟨_, rfl, .inl ⟨_, h1.sq, l _ M1 _ H1 m1 x1 (itRep_enum fun S1 M' H' mk m x g => ⟨_, (h1.mono (x.kpM mk)).sq, .ints _⟩) q⟩⟩
    | tup xs =>
      cases r with
      | tup h1 h3 => exact ⟨_, rfl, .inr ⟨_, h1.sq, l _ M1 _ H1 m1 x1 (itRep_enumT fun S1 M' H' mk m x g => ⟨_, (h1.mono (x.kpM mk)).sq, Reps.mono (x.kpM mk) _ _ h3⟩) q⟩⟩
    | _ => exact q.elim
  cases d with
  | ref p =>
    obtain ⟨j, n, e, q⟩ := q1
    cases r1
    obtain g := m1.at_ _ (List.mem_of_getElem? e)
    cases n with
    | lst xs =>
      obtain ⟨vs, h1, h2⟩ := g
      refine ⟨p, rfl, .inl ⟨vs, .inl (.inl h1), l _ M1 _ H1 m1 x1 (itRep_enum fun S1 M' H' mk m x gd => ?_) q⟩⟩
      obtain ⟨vs', h1', h2'⟩ := m.at_ _ (List.mem_of_getElem? gd)
      exact ⟨vs', .inl (.inl h1'), h2'⟩
    | _ => exact q.elim
  | _ => exact imm _ r1 q1
end OD

/-! OD11: objects of own classes: fields, making, methods; is None. -/
namespace OD
open PySem PySem.Spec L2
section
variable {K : PySem.W.Frag} {S : Mark} {H : Hp}
theorem RepsF.look {f : Str} {d : D} : ∀ {fs : List (Str × D)} {ws : List (Str × V)}, RepsF K S H ws fs → fs.lookup f = some d → ∃ v, ws.lookup f = some v ∧ Rep K S H v d := by
  intro fs
  induction fs with
  | nil => intro ws h e; cases e
  | cons p r ih =>
    intro ws h e
    cases h with
    | @cons k v ws' d' ds' a b =>
      rw [List.lookup_cons] at e ⊢
      cases hk : f == k with
      | true => rw [hk] at e; cases e; exact ⟨v, rfl, a⟩
      | false => rw [hk] at e; exact ih b e
theorem RepsF.miss {f : Str} : ∀ {fs : List (Str × D)} {ws : List (Str × V)}, RepsF K S H ws fs → fs.lookup f = none → ws.lookup f = none := by
  intro fs
  induction fs with
  | nil => intro ws h e; cases h; rfl
  | cons p r ih =>
    intro ws h e
    cases h with
    | @cons k v ws' d' ds' a b =>
      rw [List.lookup_cons] at e ⊢
      cases hk : f == k with
      | true => rw [hk] at e; cases e
      | false => rw [hk] at e; exact ih b e
theorem RepsF.length : ∀ {fs : List (Str × D)} {ws : List (Str × V)}, RepsF K S H ws fs → ws.length = fs.length := by
  intro fs
  induction fs with
  | nil => intro ws h; cases h; rfl
  | cons p r ih =>
    intro ws h
    cases h with
    | cons a b => rw [List.length_cons, List.length_cons, ih b]
def putFD (f : Str) (v : D) : List (Str × D) → List (Str × D)
  | [] => [(f, v)]
  | (g, x) :: r => if g = f then (g, v) :: r else (g, x) :: putFD f v r
theorem RepsF.put {f : Str} {v : V} {d : D} (r : Rep K S H v d) : ∀ {fs : List (Str × D)} {ws : List (Str × V)}, RepsF K S H ws fs → RepsF K S H (putF f v ws) (putFD f d fs) := by
  intro fs
  induction fs with
  | nil => intro ws h; cases h; exact .cons r .nil
  | cons p q ih =>
    intro ws h
    cases h with
    | @cons k v' ws' d' ds' a b =>
      unfold putF putFD
      by_cases e : k = f
      · rw [if_pos e, if_pos e]; exact .cons r b
      · rw [if_neg e, if_neg e]; exact .cons a (ih b)
end
/-! ### fields -/
def dFld (P : Addr → Prop) (f : Str) (da : DE) : DE := fun sl M ED Q => da sl M ED fun x M1 => vw M1 x fun y => ∃ C fs d, y = .obj C fs ∧ P C ∧ fs.lookup f = some d ∧ Q d M1
section
variable {X : Cx} {E : L2.St → XK} {K : PySem.W.Frag} {a e o value : Expr} {es : List Expr} {pos p pos' apos : Pos} {da dv : DE} {dr : DA} {f m : Str}
theorem de_fld {P : Addr → Prop} (hP : ∀ C, P C → Cls X.K C ∧ NoAttr X.K C f) (h : DEx X E e da) (hb : attributeBase e f X.env (eval e X.env) = eval e X.env := by rfl) : DEx X E (.Attribute e f pos) (dFld P f da) := by
  obtain ⟨t, p, s⟩ := h
  refine ⟨_, pe_fld p hb, fun S0 sl M σ H Q QD ED k xl hd l => s S0 sl M σ H _ _ ED k xl hd fun d M1 x H1 m1 x1 r1 q1 => ?_⟩
  obtain ⟨w, ⟨C, fs, y, rfl, hC, hl, q⟩, r⟩ := vw_of m1 r1 q1
  obtain ⟨c, n⟩ := hP C hC
  cases r with
  | imm r =>
    cases r with
    | obj h1 h2 h3 =>
      obtain ⟨v, e1, r2⟩ := h3.look hl
      exact ⟨_, C, _, _, v, rfl, h2, c, n, e1, l y M1 v H1 m1 x1 r2 q⟩
  | obj h2 h3 =>
    obtain ⟨v, e1, r2⟩ := h3.look hl
    exact ⟨_, C, _, _, v, rfl, h2, c, n, e1, l y M1 v H1 m1 x1 r2 q⟩
/-- o.f = value -/
def dSetF (P : Addr → Prop) (f : Str) (dv da : DE) : DS := fun Dd sl M => dv sl M (Dd.ex sl) fun v M1 => da sl M1 (Dd.ex sl) fun x M2 => mutN M2 x fun n wr => ∃ C dx fs, n = .ins C dx fs ∧ P C ∧ fs.length < 1000 ∧ Dd.nx sl (wr (.ins C dx (putFD f v fs)))
theorem ds_setF {P : Addr → Prop} (hP : ∀ C, P C → Cls X.K C ∧ NoAttr X.K C f) (hv : DEx X E value dv) (ha : DEx X E o da) (hs : swapsWith value (some (.Attribute o f pos')) pos.line X.env = pure false := by rfl) : DSx X E (.Assign [.Attribute o f pos'] value pos) (dSetF P f dv da) := by
  obtain ⟨tv, pv', sv⟩ := hv
  obtain ⟨t, p, s⟩ := ha
  refine ⟨_, ps_fld p pv' hs, fun S0 sl M σ H Dd Dn k l h => sv S0 sl M σ H _ _ _ k (l.xl k) h fun d M1 y H1 m1 x1 r1 q1 => ?_⟩
  have k1 := k.ext m1 x1
  refine s S0 sl M1 σ H1 _ _ _ k1 ((l.xl k).ext x1) q1 fun d2 M2 x H2 m2 x2 r2 q2 => ?_
  unfold mutN at q2
  cases d2 with
  | ref b =>
    obtain ⟨j, n, e, C, dx, fs, rfl, hC, hl, q⟩ := q2
    cases r2
    obtain ⟨ws, h1, h2⟩ := m2.at_ _ (List.mem_of_getElem? e)
    obtain ⟨c, nn⟩ := hP C hC
    have x3 : Ext M2 H2 (M2.set j (b, .ins C dx (putFD f d fs))) (upd H2 b (.ins C dx (putF f y ws))) := .write e
    have kp : Kp (SM S0 M2) H2 (SM S0 M2) (upd H2 b (.ins C dx (putF f y ws))) := by
      have := x3.kp (S0 := S0)
      rwa [SM_keys (keys_set e)] at this
    have m3 : MemOk X.K S0 (M2.set j (b, .ins C dx (putFD f d fs))) (upd H2 b (.ins C dx (putF f y ws))) := m2.write e ⟨_, upd_same, RepsF.put (Rep.mono kp _ _ (r1.ext x2)) (RepsF.mono kp _ _ h2)⟩
    refine ⟨b, C, dx, ws, rfl, h1, c, nn, by rw [h2.length]; exact hl, l.nx sl _ σ _ (k1.ext m3 (x2.trans x3)) (x1.trans (x2.trans x3)) q⟩
  | _ => exact q2.elim
/-! ### making -/
/-- a class whose __init__ keeps a promise -/
structure MkOk (P : Program) (w : World) (K : PySem.W.Frag) (mg : Str → Option Value) (base : Heap) (k : Nat) (x : Str) (C : Addr) (ps : List Str) (F : FD) : Prop where
  ex : ∃ (f : Addr) (fd : FuncData), mg x = some (.ref C) ∧ L2.Mk K C f ∧ Binds K fd ps [] ∧ FnOk P w K mg base CX0 k f fd ps (spD K F)
def dMake (C : Addr) (F : FD) (ks : List Nat) (o : Bool) (dr : DA) : DE := fun sl M ED Q => dr sl M ED fun ds M1 => (sel ks M1).length = ks.length ∧ ∀ x dx, x ∉ keys M1 →
  F (.ref x :: ds) (sel (M1.length :: ks) (M1 ++ [(x, .ins C dx [])])) (fun _ _ _ => False) fun d Mc => d = .non ∧ frzD (!o) (.ref x) (putM (M1.length :: ks) (M1 ++ [(x, .ins C dx [])]) Mc) Q
theorem sel_new {ks : List Nat} {M : Mem} {n : Addr × N} (h : (sel ks M).length = ks.length) : sel (M.length :: ks) (M ++ [n]) = n :: sel ks M := by
  rw [sel_cons, List.getElem?_append_right (Nat.le_refl _), Nat.sub_self]
  show n :: sel ks (M ++ [n]) = _
  congr 1
  unfold sel
  exact filterMap_eq fun k hk => List.getElem?_append_left (sel_at h k hk)
theorem sim_make {C : Addr} {F : FD} {ks : List Nat} {o : Bool} {t : TA} (hk : ks.Nodup) (s : SimA K E t dr) : SimE K E (tMake C (spD K F) [] E0 t) (dMake C F ks o dr) := by
  intro S0 sl M σ H Q QD ED k xl hd l
  refine s S0 sl M σ H _ _ ED k xl hd fun ds M1 vs H1 m1 x1 r1 q1 => ?_
  obtain ⟨hl, q1⟩ := q1
  intro x dx hx hdx hne
  have m2 : MemOk K S0 M1 (upd H1 dx (.own x)) := m1.new_imm hdx
  have hx2 : (upd H1 dx (.own x)) x = none := by rw [upd_ne (Ne.symm hne)]; exact hx
  have x2 : Ext M1 H1 M1 (upd H1 dx (.own x)) := .new_imm hdx
  have m3 : MemOk K S0 (M1 ++ [(x, .ins C dx [])]) (upd (upd H1 dx (.own x)) x (.ins C dx [])) := m2.new_own hx2 ⟨[], upd_same, .nil⟩
  have x3 : Ext M1 H1 (M1 ++ [(x, .ins C dx [])]) (upd (upd H1 dx (.own x)) x (.ins C dx [])) := x2.trans (.new_own hx2)
  have nk : x ∉ keys M1 := m1.notKey hx
  have hk2 : (M1.length :: ks).Nodup := List.nodup_cons.mpr ⟨fun z => absurd (sel_at hl _ z) (Nat.lt_irrefl _), hk⟩
  have hl2 : (sel (M1.length :: ks) (M1 ++ [(x, .ins C dx [])])).length = (M1.length :: ks).length := by rw [sel_new hl, List.length_cons, List.length_cons, hl]
  rw [List.append_nil]
  refine ⟨mk0 S0 (M1.length :: ks) (M1 ++ [(x, .ins C dx [])]), .ref x :: ds, _, _, _, m3.sel hk2, by rw [mk0_sm]; exact .cons (.ref _) (r1.ext x3), q1 x dx nk, fun d M' v H' m' x' pr r' q' => ?_, fun cls fs M' dd H' m' x' pr r' q' => q'.elim⟩
  obtain ⟨rfl, q'⟩ := q'
  cases r'
  obtain ⟨g1, g2, g3⟩ := put_back m3 hk2 hl2 m' x' pr
  exact ⟨rfl, frzD_ok g1 (.ref _) q' (l.ext (x1.trans (x3.trans g2)))⟩
theorem de_make {k : Nat} {x : Str} {C : Addr} {ps : List Str} {F : FD} (c : MkOk X.prog X.w X.K X.mg X.base k x C ps F) (hr : Room (k + 1) X.A) (ks : List Nat) (o : Bool) (ha : DAx X E (a :: es) dr) (hk : ks.Nodup := by decide) (hg : Gl X x := by rfl) (hdb : (x == ("__debug__" : Str)) = false := by decide)
    (he : starEach (a :: es) X.env = (false, eval a X.env) :: starEach es X.env := by rfl) (hpl : (backTo pos (starEach es X.env)).any (·.1) = false := by rfl) : DEx X E (.Call (.Name x p) (a :: es) [] pos) (dMake C F ks o dr) := by
  obtain ⟨f, fd, hm, M, hb, G⟩ := c
  obtain ⟨t, pa, s⟩ := ha
  exact ⟨_, pe_make M G hr hg hm hb .nil pass0 pa hdb he hpl, sim_make hk s⟩
/-! ### methods -/
structure MethOk (P : Program) (w : World) (K : PySem.W.Frag) (mg : Str → Option Value) (base : Heap) (k : Nat) (C : Addr) (m : Str) (ps : List Str) (F : FD) : Prop where
  ex : ∃ (f : Addr) (fd : FuncData), Cls K C ∧ Meth K C m f ∧ Binds K fd ps [] ∧ FnOk P w K mg base CX0 k f fd ps (spD K F)
def dMethO (C : Addr) (m : Str) (F : FD) (ks : List Nat) (da : DE) (dr : DA) : DE := fun sl M ED Q => da sl M ED fun x M1 => vw M1 x fun y => ∃ fs, y = .obj C fs ∧ fs.lookup m = none ∧ dr sl M1 ED fun ds M2 => (sel ks M2).length = ks.length ∧ F (x :: ds) (sel ks M2) (fun _ _ _ => False) fun d Mc => Q d (putM ks M2 Mc)
theorem sim_methO {C : Addr} {F : FD} {ks : List Nat} {ta : TE} {t : TA} (hk : ks.Nodup) (sa : SimE K E ta da) (s : SimA K E t dr) : SimE K E (tMeth C m (spD K F) [] E0 ta t) (dMethO C m F ks da dr) := by
  intro S0 sl M σ H Q QD ED k xl hd l
  refine sa S0 sl M σ H _ _ ED k xl hd fun d M1 x H1 m1 x1 r1 q1 => ?_
  obtain ⟨w, ⟨fs, rfl, hl, q⟩, r⟩ := vw_of m1 r1 q1
  have fin : ∀ b dx ws, x = V.ref b → H1 b = some (.ins C dx ws) → RepsF K (SM S0 M1) H1 ws fs → ∃ b dx ws, x = V.ref b ∧ H1 b = some (.ins C dx ws) ∧ ws.lookup m = none ∧ t σ H1 fun vs H2 => spD K F (x :: (vs ++ [])) H2 Q E0 := fun b dx ws ex h1 h2 => by
    refine ⟨b, dx, ws, ex, h1, h2.miss hl, s S0 sl M1 σ H1 _ _ ED (k.ext m1 x1) (xl.ext x1) q fun ds M2 vs H2 m2 x2 r2 q2 => ?_⟩
    obtain ⟨hl2, q2⟩ := q2
    rw [List.append_nil]
    refine ⟨mk0 S0 ks M2, d :: ds, sel ks M2, _, _, m2.sel hk, by rw [mk0_sm]; exact .cons (r1.ext x2) r2, q2, fun d M' v H' m' x' pr r' q' => ?_, fun cls fs M' dd H' m' x' pr r' q' => q'.elim⟩
    obtain ⟨g1, g2, g3⟩ := put_back m2 hk hl2 m' x' pr
    exact l d _ v H' g1 ((x1.trans x2).trans g2) (by rw [g3]; exact r') q'
  cases r with
  | imm r => cases r with
    | obj h1 h2 h3 => exact fin _ _ _ rfl h2 h3
  | obj h2 h3 => exact fin _ _ _ rfl h2 h3
/-! ### is None -/
def isNonD : D → Bool
  | .non => true
  | _ => false
def isND (n : Bool) : D → D → Mem → DK → Prop := fun x y M Q => y = .non ∧ Q (.bl (xorB n (isNonD x))) M
theorem isNon_of {S : Mark} {H : Hp} {v : V} {d : D} (r : RepT K S H v d) : decide (v = .non) = isNonD d := by
  cases r with
  | imm r => cases r <;> rfl
  | _ => rfl
theorem sv_isN : SimV2 K (fun x y H Q => y = .non ∧ Q (.bl (decide (x = .non))) H) (isND false) := by
  intro S0 M H x y dx dy Q QD m rx ry h l
  obtain ⟨rfl, q⟩ := h
  refine ⟨?_, ?_⟩
  · cases ry with
    | imm r => cases r; rfl
  · rw [isNon_of rx]
    exact l.now m (.bl _) q
theorem sv_notN : SimV2 K (fun x y H Q => y = .non ∧ Q (.bl (!decide (x = .non))) H) (isND true) := by
  intro S0 M H x y dx dy Q QD m rx ry h l
  obtain ⟨rfl, q⟩ := h
  refine ⟨?_, ?_⟩
  · cases ry with
    | imm r => cases r; rfl
  · rw [isNon_of rx]
    refine l.now m (.bl _) ?_
    have e : (!isNonD dx) = xorB true (isNonD dx) := by cases isNonD dx <;> rfl
    rw [e]
    exact q
end
end OD

/-! OD13: == and != of objects by an own __eq__. -/
namespace OD
open PySem PySem.Spec L2 PyProof.Rows
section
variable {prog : Program} {w : World} {M : Model} {A : Around} {E : Value → Shared → Prop} {s : Shared} {K : PySem.W.Frag} {x C f : Addr} {ox : Obj} {od : Option Obj} {y : Value}
/-- what a class must have for != by its __eq__ -/
structure NeOk (K : PySem.W.Frag) (C f : Addr) : Prop where
  eq : PySem.W.findIn K (.ref C) "__eq__" = some (some (.ref f))
  fn : PySem.W.isFn K (.ref f) = true
  ne : PySem.W.findIn K (.ref C) "__ne__" = some (some (.builtin "object.__ne__"))
  ob : PySem.W.mroIn K C (.type "object") = some true
theorem ne_body (hu : A.units < cLine) (X : K.In s.heap) (I : PySem.W.InstAt s.heap x ox C od) (c : NeOk K C f) {Q : Fin → Shared → Prop}
    (h : wpAny (model prog w) A (call (.ref f) [.ref x, y]) (fun v s' => ∃ b, v = .bool b ∧ Q (.done (.ret (.bool (!b)))) s') E s) : wpAny (model prog w) A (Builtin.«object.__ne__» ⟨[.ref x, y], []⟩) Q E s := by
  unfold Builtin.«object.__ne__»
  repeat (first
    | with_reducible refine wpAny_cRoomFor hu ?_
    | (refine wpAny_bind (m := callSpecialIfBound? (.ref x) (Str.ofString "__eq__") [y])
        (PySem.W.ifBound_K X I c.eq c.fn (wpAny_mono h (fun r s' hr => by
          obtain ⟨b, rfl, hq⟩ := hr
          repeat (first | exact hq | exact wpAny_pure hq | exact wpAny_truthy_bool hq | (refine wpAny_bind (m := truthy (.bool _)) (wpAny_truthy_bool ?_)) | wp_step)) fun _ _ e => e)))
    | wp_step)
theorem ne_bound (X : K.In s.heap) (I : PySem.W.InstAt s.heap x ox C od) (c : NeOk K C f) {args : List Value} {Q : Option Value → Shared → Prop}
    (h : wpAny M A (call (.builtin "object.__ne__") (.ref x :: args)) (fun v => Q (some v)) E s) : wpAny M A (callSpecialIfBound? (.ref x) "__ne__" args) Q E s := by
  simp only [callSpecialIfBound?, bindSpecialIfBound?]
  refine wpAny_holding (wpAny_bind (wpAny_bind (wpAny_bind (I.type.here ((PySem.W.looks_findIn X c.ne).here ?_)))))
  refine wpAny_bind (wpAny_askSetting (wpAny_ite ?_))
  have z : wpAny M A (call (.builtin "object.__ne__") ([.ref x] ++ args) >>= fun v => pure (some v)) Q E s := wpAny_bind (wpAny_mono h (fun v s' q => wpAny_pure q) fun _ _ q => q)
  split
  · exact wpAny_bind (wpAny_of_eq (F.cmp_object.ne.bind _) (wpAny_pure (by exact z)))
  · exact wpAny_tryCatch (wpAny_bind (wpAny_of_eq (F.cmp_object.ne.bind _) (wpAny_pure (by exact z))))
theorem ne_rich {h0 : Heap} {L : Addr} {m : Str → Option Value} {tb : Value} {Q : Value → Shared → Prop} (hu : A.units + 1 < cLine) (X : K.In s.heap) (I : PySem.W.InstAt s.heap x ox C od) (c : NeOk K C f) (hb : PySem.W.Looks (model prog w) s.heap (typeOf y) tb) (hn : PySem.W.notFirst K C tb = true)
    (h : wpAny (model prog w) A.in1 (call (.ref f) [.ref x, y]) (fun v s' => ∃ b, v = .bool b ∧ Q (.bool (!b)) s') E s) : wpAny (model prog w) A (richCompare .NotEq (.ref x) y) Q E s := by
  have one : wpAny (model prog w) A (tryCompare (.ref x) (cmpInfo .NotEq).2.1 y) (fun r s' => ∃ v, r = some v ∧ Q v s') E s := by
    unfold tryCompare
    refine wpAny_bind (ne_bound X I c (wpAny_call (codeAny_call_builtin F.cmp_object.ne.plain F.cmpEntry_ne (PySem.W.check_slot F.cmpKind_ne F.cmpSplit_ne (I.type.andThen (PySem.W.looks_mroIn X c.ob)) (F.cmpArgs_ne _ _) (ne_body (A := A.in1) hu X I c (wpAny_mono h (fun v s' hv => ?_) fun _ _ e => e))))))
    obtain ⟨b, rfl, q⟩ := hv
    exact ⟨b, rfl, wpAny_pure ⟨_, rfl, q⟩⟩
  unfold richCompare
  simp only [oneThing_ref]
  refine wpAny_holding (wpAny_bind (wpAny_cRoomFor (Nat.lt_of_succ_lt hu) ?_))
  refine wpAny_bind (I.type.here (wpAny_bind (hb.here ?_)))
  have fin : ∀ (g : Option Value → Sem Value), (∀ v, g (some v) = pure v) → wpAny (model prog w) A (tryCompare (.ref x) (cmpInfo .NotEq).2.1 y >>= g) Q E s := fun g hg => wpAny_bind (wpAny_mono one (fun r s' z => by
    obtain ⟨v, rfl, q⟩ := z
    show wpAny (model prog w) A (g (some v)) Q E s'
    rw [hg v]
    exact wpAny_pure q) fun _ _ e => e)
  split
  · rename_i q
    have e : PySem.W.subIn K tb (.ref C) = some false := by
      rcases Bool.or_eq_true_iff.mp hn with e | e
      · rw [beq_iff_eq.mp e] at q
        simp at q
      · exact beq_iff_eq.mp e
    refine wpAny_bind ((PySem.W.looks_subIn X e).here ?_)
    simp only [Bool.false_eq_true, if_false]
    exact fin _ fun v => rfl
  · refine wpAny_bind (wpAny_pure ?_)
    simp only [Bool.false_eq_true, if_false]
    exact fin _ fun v => rfl
end
section
variable {X : Cx} {pins : List (Addr × Obj)} {σ : L2.St} {H : Hp} {s : Shared} {k : Nat} {f : Addr} {fd : FuncData} {ps : List Str} {sp : Sp}
/-- a def runs, called from a C slot within this body -/
theorem run_at {A : Around} (hA : A.frames = X.A.frames) (G : FnOk X.prog X.w X.K X.mg X.base CX0 k f fd ps sp) (hr : Room k A) (hb : Binds X.K fd ps []) (I : Inv X pins σ H s) {us : List Value} {vs : List V} {Q : VK} (r : Vals vs us) (h : sp vs H Q E0) :
    wpAny (model X.prog X.w) A (call (.ref f) us) (EP X pins σ Q) X.xe s := by
  have e0 : Env0 X.prog X.w X.K X.mg X.base A X.stack s H := by
    have e := I.env0
    exact ⟨by rw [hA]; exact e.frames, e.mod, e.bs, e.bsz, e.funs, e.frf, e.hok, e.bare⟩
  have hl := G.len _ _ _ _ h
  refine wpAny_call (codeAny_mono (G.run A X.stack s H ⟨us, []⟩ us vs Q E0 hr e0 (by
    have z := hb s us I.kIn (by rw [List.append_nil, ← r.length]; exact hl)
    rw [List.append_nil] at z
    exact z) r h) fun r s' hq => ?_)
  cases r with
  | error e => exact pass0 pins σ H s e s' I hq
  | ok fl =>
    cases fl with
    | ret w => exact I.after hq
    | next => exact False.elim hq
    | brk => exact False.elim hq
    | cont => exact False.elim hq
/-- the classes whose objects are compared, their __eq__ and what it promises -/
structure EqOk (P : Program) (w : World) (K : PySem.W.Frag) (mg : Str → Option Value) (base : Heap) (k : Nat) (PC : Addr → Addr → Prop) (F : FD) : Prop where
  ex : ∃ (f : Addr) (fd : FuncData) (ps : List Str), (∀ C C', PC C C' → NeOk K C f ∧ PySem.W.notFirst K C (.ref C') = true) ∧ Binds K fd ps [] ∧ FnOk P w K mg base CX0 k f fd ps (spD K F)
def rEqO (PC : Addr → Addr → Prop) (sp : Sp) (n : Bool) : R2 := fun x y H Q => ∃ a b C dx fs C' dy gs, x = .ref a ∧ y = .ref b ∧ H a = some (.ins C dx fs) ∧ H b = some (.ins C' dy gs) ∧ PC C C' ∧ sp [.ref a, .ref b] H (fun v H' => ∃ c, v = .bl c ∧ Q (.bl (xorB n c)) H') E0
theorem op_eqO {PC : Addr → Addr → Prop} (hc : ∀ C C', PC C C' → NeOk X.K C f ∧ PySem.W.notFirst X.K C (.ref C') = true) (hb : Binds X.K fd ps []) (G : FnOk X.prog X.w X.K X.mg X.base CX0 k f fd ps sp) (hr : Room (k + 1) X.A) : OpR X (compareOp .Eq) (rEqO PC sp false) := by
  intro pins s σ H x y v u Q I rx ry h
  obtain ⟨a, b, C, dx, fs, C', dy, gs, rfl, rfl, ha, hb', hC, h⟩ := h
  cases rx
  cases ry
  obtain ⟨c, nf⟩ := hc C C' hC
  obtain ⟨mA, J, _⟩ := ins_get I.hok ha
  obtain ⟨mB, J', _⟩ := ins_get I.hok hb'
  obtain ⟨od, J, _⟩ := J.look
  obtain ⟨od', J', _⟩ := J'.look
  obtain ⟨m, hF⟩ := I.fr
  refine PySem.W.cmp_K (op := .Eq) (tb := .ref C') hr.units0 hF I.ok.mod.kin J J'.type nf c.eq c.fn ?_
  refine wpAny_mono (run_at (A := X.A) rfl G (hr.mono (by omega)) hb I (vs := [V.ref a, V.ref b]) (.cons rfl (.cons rfl .nil)) h) (fun u s' hq => ?_) fun _ _ e => e
  obtain ⟨z, H', I', rz, cc, rfl, q⟩ := hq
  cases rz
  exact ⟨.bl cc, H', I', rfl, q⟩
theorem op_neO {PC : Addr → Addr → Prop} (hc : ∀ C C', PC C C' → NeOk X.K C f ∧ PySem.W.notFirst X.K C (.ref C') = true) (hb : Binds X.K fd ps []) (G : FnOk X.prog X.w X.K X.mg X.base CX0 k f fd ps sp) (hr : Room (k + 1) X.A) : OpR X (compareOp .NotEq) (rEqO PC sp true) := by
  intro pins s σ H x y v u Q I rx ry h
  obtain ⟨a, b, C, dx, fs, C', dy, gs, rfl, rfl, ha, hb', hC, h⟩ := h
  cases rx
  cases ry
  obtain ⟨c, nf⟩ := hc C C' hC
  obtain ⟨mA, J, _⟩ := ins_get I.hok ha
  obtain ⟨mB, J', _⟩ := ins_get I.hok hb'
  obtain ⟨od, J, _⟩ := J.look
  obtain ⟨od', J', _⟩ := J'.look
  have hu := hr.units
  refine ne_rich (h0 := X.base) (L := 0) (m := fun _ => none) (tb := .ref C') (by omega) I.kIn J c J'.type nf ?_
  refine wpAny_mono (run_at (A := X.A.in1) rfl G hr.in1 hb I (vs := [V.ref a, V.ref b]) (.cons rfl (.cons rfl .nil)) h) (fun u s' hq => ?_) fun _ _ e => e
  obtain ⟨z, H', I', rz, cc, rfl, q⟩ := hq
  cases rz
  exact ⟨cc, rfl, .bl (!cc), H', I', rfl, by cases cc <;> exact q⟩
/-- over data: both sides objects that are data -/
def dEqO (PC : Addr → Addr → Prop) (F : FD) (n : Bool) (da db : DE) : DE := fun sl M ED Q => da sl M ED fun x M1 => db sl M1 ED fun y M2 => ∃ C fs C' gs, x = .obj C fs ∧ y = .obj C' gs ∧ PC C C' ∧
  F [x, y] [] (fun _ _ _ => False) fun d M' => ∃ c, d = .bl c ∧ Q (.bl (xorB n c)) (M2 ++ M')
theorem sim_eqO {K : PySem.W.Frag} {E : L2.St → XK} {PC : Addr → Addr → Prop} {F : FD} {n : Bool} {ta tb : TE} {da db : DE} (ha : SimE K E ta da) (hb : SimE K E tb db) : SimE K E (tOp (rEqO PC (spD K F) n) ta tb) (dEqO PC F n da db) := by
  intro S0 sl M σ H Q QD ED k xl hd l
  refine ha S0 sl M σ H _ _ ED k xl hd fun d1 M1 x H1 m1 x1 r1 q1 => ?_
  refine hb S0 sl M1 σ H1 _ _ ED (k.ext m1 x1) (xl.ext x1) q1 fun d2 M2 y H2 m2 x2 r2 q2 => ?_
  obtain ⟨C, fs, C', gs, rfl, rfl, hC, q⟩ := q2
  have r1' := r1.ext x2
  cases r1' with
  | @obj a _ dx ws _ h1 h2 h3 =>
  cases r2 with
  | @obj b _ dy us _ g1 g2 g3 =>
  refine ⟨a, b, C, dx, ws, C', dy, us, rfl, rfl, h2, g2, hC, mk0 S0 [] M2, [.obj C fs, .obj C' gs], sel [] M2, _, _, m2.sel List.nodup_nil, by rw [mk0_sm]; exact .cons (.obj h1 h2 h3) (.cons (.obj g1 g2 g3) .nil), q, fun d M' v H' m' x' pr r' q' => ?_, fun cls fs M' dd H' m' x' pr r' q' => q'.elim⟩
  obtain ⟨p1, p2, p3⟩ := put_back m2 List.nodup_nil rfl m' x' pr
  obtain ⟨c, rfl, q'⟩ := q'
  cases r'
  exact ⟨c, rfl, l _ _ _ H' p1 ((x1.trans x2).trans p2) (.bl _) q'⟩
theorem de_eqO {E : L2.St → XK} {a b : Expr} {pos : Pos} {PC : Addr → Addr → Prop} {F : FD} {da db : DE} (c : EqOk X.prog X.w X.K X.mg X.base k PC F) (hr : Room (k + 1) X.A) (ha : DEx X E a da) (hb : DEx X E b db) (hm : behindInMarks .Eq b = false := by first | exact nomark _ | rfl) : DEx X E (.Compare a [.Eq] [b] pos) (dEqO PC F false da db) := by
  obtain ⟨f, fd, ps, h1, h2, h3⟩ := c
  obtain ⟨ta, p1, s1⟩ := ha
  obtain ⟨tb, p2, s2⟩ := hb
  exact ⟨_, pe_cmpR (op_eqO h1 h2 h3 hr) p1 p2 hm, sim_eqO s1 s2⟩
theorem de_neO {E : L2.St → XK} {a b : Expr} {pos : Pos} {PC : Addr → Addr → Prop} {F : FD} {da db : DE} (c : EqOk X.prog X.w X.K X.mg X.base k PC F) (hr : Room (k + 1) X.A) (ha : DEx X E a da) (hb : DEx X E b db) (hm : behindInMarks .NotEq b = false := by first | exact nomark _ | rfl) : DEx X E (.Compare a [.NotEq] [b] pos) (dEqO PC F true da db) := by
  obtain ⟨f, fd, ps, h1, h2, h3⟩ := c
  obtain ⟨ta, p1, s1⟩ := ha
  obtain ⟨tb, p2, s2⟩ := hb
  exact ⟨_, pe_cmpR (op_neO h1 h2 h3 hr) p1 p2 hm, sim_eqO s1 s2⟩
theorem dt_eqO {E : L2.St → XK} {a b : Expr} {pos : Pos} {PC : Addr → Addr → Prop} {F : FD} {da db : DE} (c : EqOk X.prog X.w X.K X.mg X.base k PC F) (hr : Room (k + 1) X.A) (ha : DEx X E a da) (hb : DEx X E b db) (hm : behindInMarks .Eq b = false := by first | exact nomark _ | rfl) : DTx X E (.Compare a [.Eq] [b] pos) (dTest (dEqO PC F false da db)) := by
  obtain ⟨f, fd, ps, h1, h2, h3⟩ := c
  obtain ⟨ta, p1, s1⟩ := ha
  obtain ⟨tb, p2, s2⟩ := hb
  exact ⟨_, pt_cmpR (op_eqO h1 h2 h3 hr) p1 p2 hm, sim_test (sim_eqO s1 s2)⟩
theorem dt_neO {E : L2.St → XK} {a b : Expr} {pos : Pos} {PC : Addr → Addr → Prop} {F : FD} {da db : DE} (c : EqOk X.prog X.w X.K X.mg X.base k PC F) (hr : Room (k + 1) X.A) (ha : DEx X E a da) (hb : DEx X E b db) (hm : behindInMarks .NotEq b = false := by first | exact nomark _ | rfl) : DTx X E (.Compare a [.NotEq] [b] pos) (dTest (dEqO PC F true da db)) := by
  obtain ⟨f, fd, ps, h1, h2, h3⟩ := c
  obtain ⟨ta, p1, s1⟩ := ha
  obtain ⟨tb, p2, s2⟩ := hb
  exact ⟨_, pt_cmpR (op_neO h1 h2 h3 hr) p1 p2 hm, sim_test (sim_eqO s1 s2)⟩
end
end OD

/-! OD14: in, get, comprehensions that make dicts. -/
namespace OD
open PySem PySem.Spec L2
section
variable {X : Cx} {E : L2.St → XK} {K : PySem.W.Frag} {a b c : Expr} {es : List Expr} {pos p : Pos} {da db dc : DE} {dr : DA} {dt : DT} {sts : List Stmt} {td ud : DS} {tg iter : Expr}
def scal : D → Option V
  | .non => some .non | .bl b => some (.bl b) | .int i => some (.int i) | .str z => some (.str z)
  | _ => none
theorem scal_V {S : Mark} {H : Hp} {v w : V} {d : D} (r : RepT K S H v d) (e : scal d = some w) : v = w ∧ flatV w = true := by
  cases r with
  | imm r => cases r <;> first | (cases e; exact ⟨rfl, rfl⟩) | cases e
  | _ => cases e
theorem scal_Vs {S : Mark} {H : Hp} : ∀ {ds : List D} {vs ws : List V}, Reps K S H vs ds → ds.map scal = ws.map some → vs = ws ∧ ws.all flatV = true := by
  intro ds
  induction ds with
  | nil => intro vs ws r e; cases r; cases ws with
    | nil => exact ⟨rfl, rfl⟩
    | cons _ _ => cases e
  | cons d ds ih =>
    intro vs ws r e
    cases ws with
    | nil => cases e
    | cons w ws =>
      cases r with
      | cons r1 r2 =>
        rw [List.map_cons, List.map_cons] at e
        injection e with e1 e2
        obtain ⟨h1, h2⟩ := scal_V (.imm r1) e1
        obtain ⟨h3, h4⟩ := ih r2 e2
        exact ⟨by rw [h1, h3], by rw [List.all_cons, h2, h4]; rfl⟩
def keyD : D → Option Key
  | .int i => some (.inl i) | .str z => some (.inr z)
  | _ => none
theorem keyD_V {S : Mark} {H : Hp} {v : V} {k : Key} {d : D} (r : RepT K S H v d) (e : keyD d = some k) : v = kV k := by
  cases r with
  | imm r => cases r <;> first | (cases e; rfl) | cases e
  | _ => cases e
def lookD (kvs : List (Key × D)) (k : Key) : Option D := (kvs.find? fun kv => decide (kv.1 = k)).map (·.2)
/-! ### in -/
def inD (n : Bool) (x y : D) (M : Mem) (Q : DK) : Prop := match y with
  | .dic kvs => ∃ k, keyD x = some k ∧ Q (.bl (xorB n (lookD kvs k).isSome)) M
  | .lst ys => ∃ vx vys, scal x = some vx ∧ ys.map scal = vys.map some ∧ Q (.bl (xorB n (inV vx vys))) M
  | .tup ys => ∃ vx vys, scal x = some vx ∧ ys.map scal = vys.map some ∧ Q (.bl (xorB n (inV vx vys))) M
  | _ => False
def rInDk (n : Bool) : R2 := fun x y H Q => ∃ a o, y = .ref a ∧ DGet H a x o ∧ Q (.bl (if n then !o.isSome else o.isSome)) H
theorem op_inDk (hu : X.A.units + 64 < cLine) : OpR X (compareOp .In) (rInDk false) := by
  intro pins s σ H x y v u Q I rx ry h
  obtain ⟨a, o, rfl, g, q⟩ := h
  cases ry
  exact d_in (by omega) I g rx fun s' I' => ⟨.bl o.isSome, H, I', rfl, q⟩
theorem op_notInDk (hu : X.A.units + 64 < cLine) : OpR X (compareOp .NotIn) (rInDk true) := by
  intro pins s σ H x y v u Q I rx ry h
  obtain ⟨a, o, rfl, g, q⟩ := h
  cases ry
  exact d_notIn (by omega) I g rx fun s' I' => ⟨.bl (!o.isSome), H, I', rfl, q⟩
def rInA (K : PySem.W.Frag) (n : Bool) : R2 := fun x y H Q => rIn K n x y H Q ∨ rInDk n x y H Q
theorem op_inA (hu : X.A.units + 64 < cLine) : OpR X (compareOp .In) (rInA X.K false) := op_in_seq.or (op_inDk hu)
theorem op_notInA (hu : X.A.units + 64 < cLine) : OpR X (compareOp .NotIn) (rInA X.K true) := op_notIn_seq.or (op_notInDk hu)
theorem RepsK.get {S : Mark} {H : Hp} {k : Key} {kvs : List (Key × D)} {ws : List (Key × V)} (h : RepsK K S H ws kvs) : (lookD kvs k).isSome = (valV ws k).isSome := by
  cases e : lookD kvs k with
  | none => rw [h.valN e]; rfl
  | some d => obtain ⟨v, e2, _⟩ := h.val e; rw [e2]; rfl
theorem sv_in {n : Bool} : SimV2 K (rInA K n) (inD n) := by
  intro S0 M H x y dx dy Q QD m rx ry h l
  cases dy with
  | dic kvs =>
    obtain ⟨a, vs, rfl, h1, r1⟩ := ry.dic_inv
    obtain ⟨k, e, q⟩ := h
    cases keyD_V rx e
    refine .inr ⟨a, _, rfl, dgetR (k := k) h1, ?_⟩
    have q2 := l.now m (.bl _) q
    rw [RepsK.get r1] at q2
    cases n <;> exact q2
  | lst ys =>
    obtain ⟨a, vs, rfl, h1, r1⟩ := ry.lst_inv
    obtain ⟨vx, vys, e1, e2, q⟩ := h
    obtain ⟨rfl, f1⟩ := scal_V rx e1
    obtain ⟨rfl, f2⟩ := scal_Vs r1 e2
    refine .inl ⟨a, _, rfl, .inl (.inl (.inl h1)), f1, f2, ?_⟩
    have q2 := l.now m (.bl _) q
    cases n <;> exact q2
  | tup ys =>
    obtain ⟨a, vs, rfl, h1, r1⟩ := ry.tup_inv
    obtain ⟨vx, vys, e1, e2, q⟩ := h
    obtain ⟨rfl, f1⟩ := scal_V rx e1
    obtain ⟨rfl, f2⟩ := scal_Vs r1 e2
    refine .inl ⟨a, _, rfl, .inr h1, f1, f2, ?_⟩
    have q2 := l.now m (.bl _) q
    cases n <;> exact q2
  | _ => exact h.elim
/-! ### d.get(k, x) -/
def dGet2 (da db dc : DE) : DE := fun sl M ED Q => da sl M ED fun x M1 => vw M1 x (fun w => ∃ kvs, w = .dic kvs) ∧ db sl M1 ED fun y M2 => dc sl M2 ED fun z M3 => vw M3 x fun w => ∃ kvs k, w = .dic kvs ∧ keyD y = some k ∧ Q ((lookD kvs k).getD z) M3
theorem de_get2 {o e f : Expr} {apos cpos : Pos} (hu : X.A.units + 64 < cLine) (ho : DEx X E o da) (he : DEx X E e db) (hf : DEx X E f dc) (m : M2 X o "get" apos e f cpos := by exact ⟨rfl, rfl, rfl, rfl⟩) : DEx X E (.Call (.Attribute o "get" apos) [e, f] [] cpos) (dGet2 da db dc) := by
  obtain ⟨ta, p1, s1⟩ := ho
  obtain ⟨tb, p2, s2⟩ := he
  obtain ⟨tc, p3, s3⟩ := hf
  refine ⟨_, pe_dget2 (by omega) p1 p2 p3 m, fun S0 sl M σ H Q QD ED k xl hd l => s1 S0 sl M σ H _ _ ED k xl hd fun d1 M1 x H1 m1 x1 r1 q1 => ?_⟩
  obtain ⟨q0, q1⟩ := q1
  obtain ⟨w, ⟨kvs, rfl⟩, rw0⟩ := vw_of m1 r1 q0
  obtain ⟨a, vs, rfl, h1, _⟩ := rw0.dic_inv
  refine ⟨a, rfl, .inl ⟨vs, h1⟩, s2 S0 sl M1 σ H1 _ _ ED (k.ext m1 x1) (xl.ext x1) q1 fun d2 M2 y H2 m2 x2 r2 q2 => ?_⟩
  refine s3 S0 sl M2 σ H2 _ _ ED ((k.ext m1 x1).ext m2 x2) ((xl.ext x1).ext x2) q2 fun d3 M3 z H3 m3 x3 r3 q3 => ?_
  obtain ⟨w, ⟨kvs, k', rfl, ek, q⟩, rw3⟩ := vw_of m3 ((r1.ext x2).ext x3) q3
  obtain ⟨a', vs', ea, h3, rk⟩ := rw3.dic_inv
  cases ea
  cases keyD_V (.imm r2) ek
  refine ⟨_, dgetR (k := k') h3, ?_⟩
  have x4 := (x1.trans x2).trans x3
  cases e : lookD kvs k' with
  | none => rw [e] at q; rw [rk.valN e]; exact l _ M3 _ H3 m3 x4 r3 q
  | some d =>
    rw [e] at q
    obtain ⟨v, e2, r⟩ := rk.val e
    rw [e2]
    exact l _ M3 _ H3 m3 x4 r q
/-! ### comprehensions that make dicts -/
def dDc (o : Bool) (di : DI) (vs : List Nat) (dg : DG) (tt : DT) (tk te : DE) : DE := fun sl M ED Q => di sl M ED fun it M1 => ∃ W : Nat → List (Key × D) → Mem → Prop, W 0 [] M1 ∧ (∀ j acc M, j ≤ it.n → W j acc M → it.gd M) ∧
  (∀ j acc M, j < it.n → W j acc M → dg (it.at_ j) (wipeD sl vs) M fun sl2 M2 => tt sl2 M2 NoX fun b M3 => if b = true then tk sl2 M3 NoX fun dk M4 => ∃ k, keyD dk = some k ∧ te sl2 M4 NoX fun d M5 => acc.length < sizeLine ∧ W (j + 1) (putD acc k d) M5 else W (j + 1) acc M3) ∧
  ∀ acc M, W it.n acc M → al o (.dic acc) M Q
theorem sim_dc {o : Bool} {wi : TI} {di : DI} {g : TG} {dg : DG} {t : TT} {tk te : TE} {tt : DT} {dk de : DE} {vs : List Nat} {E' : L2.St → XK} (s1 : SimI K E wi di) (s2 : SimG K g dg) (mg : WG vs g) (s3 : SimT K E' t tt) (s5 : SimE K E' tk dk) (s4 : SimE K E' te de) : SimE K E (tDc wi g t tk te vs) (dDc o di vs dg tt dk de) := by
  intro S0 sl M σ H Q QD ED k xl hd l
  refine s1 S0 sl M σ H _ _ ED k xl hd fun it M1 J H1 m1 x1 ir q => ?_
  obtain ⟨W, w0, wg, wt, we⟩ := q
  intro Dl hD
  -- the new list is marked while it grows
  let S1 : Mark := fun a => S0 a ∨ a = Dl
  have mk : Mk S0 H1 S1 := ⟨fun a h => .inl h, fun a h => h.imp _root_.id fun e => by rw [e]; exact hD⟩
  have hs : ∀ a, S0 a → S1 a := fun a h => .inl h
  have k1 := k.ext m1 x1
  have St : ∀ {acc : List (Key × D)} {vs' : List (Key × V)} {M' : Mem} {H' : Hp}, MemOk K S1 M' H' → Ext M1 H1 M' H' → Ok K S1 sl M' σ H' := fun {acc vs' M' H'} m x =>
    ⟨k.len, fun i d e => let ⟨v, e2, r⟩ := k1.sl i d e; ⟨v, e2, Rep.mono (x.kpM mk) d v r⟩, m⟩
  refine ⟨fun i m H' => m = it.n - i ∧ i ≤ it.n ∧ ∃ (acc : List (Key × D)) (accV : List (Key × V)) (M' : Mem), MemOk K S1 M' H' ∧ Ext M1 H1 M' H' ∧ H' Dl = some (.dK accV) ∧ RepsK K (SM S1 M') H' accV acc ∧ W i acc M', ⟨it.n, by simp, Nat.zero_le _, [], [], M1, ?_, .new_imm hD, upd_same, .nil, w0⟩, ?_⟩
  · have b := m1.new_imm (o := .dK []) hD
    refine ⟨b.nd, fun e he => (m1.at_ e he).mono ((Ext.new_imm (M := M1) (o := .dK []) hD).kpM mk) ?_, fun a h => ?_, fun a ha h => ?_⟩
    · rw [upd_ne]
      intro z
      exact (m1.at_ e he).some (by rw [z]; exact hD)
    · rcases h with h | h
      · exact b.trk a h
      · rw [h, upd_same]; exact fun z => by cases z
    · rcases h with h | h
      · exact m1.dis a ha h
      · rw [h] at ha; exact m1.notKey hD ha
  · rintro i m H' ⟨rfl, hi, acc, accV, M', m', x', eD, rD, w⟩
    have gg := ir S1 M' H' mk m' x' (wg i acc M' hi w)
    by_cases hlt : i < it.n
    · obtain ⟨g1, g2⟩ := gg.1 i hlt
      refine .inr ⟨g1, fun H2 => ∃ (acc : List (Key × D)) (accV : List (Key × V)) (M2 : Mem), MemOk K S1 M2 H2 ∧ Ext M1 H1 M2 H2 ∧ H2 Dl = some (.dK accV) ∧ RepsK K (SM S1 M2) H2 accV acc ∧ W (i + 1) acc M2, fun H2 h2 => ⟨it.n - (i + 1), by omega, rfl, hlt, h2⟩, fun y H'' hy => ?_⟩
      obtain ⟨m2, x2, r2⟩ := g2 y H'' hy
      have kk : Ok K S1 sl M' σ H'' := St (acc := acc) (vs' := accV) m2 (x'.trans x2)
      have kw : Ok K S1 (wipeD sl vs) M' (wipe σ vs) H'' := let z := wipe_ok kk.len kk.sl vs; ⟨z.1, z.2, m2⟩
      have nD : ∀ {M'' : Mem} {h : Hp}, MemOk K S1 M'' h → Dl ∉ keys M'' := fun m z => m.dis Dl z (.inr rfl)
      have base := s2 S1 (wipeD sl vs) M' (wipe σ vs) H'' y (it.at_ i) (fun σ2 H2 => t σ2 H2 fun b H3 => if b = true then tk σ2 H3 fun y0 H4 => te σ2 H4 fun y H5 => ∃ kvs kk, y0 = kV kk ∧ H5 Dl = some (.dK kvs) ∧ kvs.length < sizeLine ∧ (∃ (acc' : List (Key × D)) (accV : List (Key × V)) (M2 : Mem), MemOk K S1 M2 (upd H5 Dl (.dK (putK kvs kk y))) ∧ Ext M1 H1 M2 (upd H5 Dl (.dK (putK kvs kk y))) ∧ upd H5 Dl (.dK (putK kvs kk y)) Dl = some (.dK accV) ∧ RepsK K (SM S1 M2) (upd H5 Dl (.dK (putK kvs kk y))) accV acc' ∧ W (i + 1) acc' M2) else
        (∃ (acc : List (Key × D)) (accV : List (Key × V)) (M2 : Mem), MemOk K S1 M2 H3 ∧ Ext M1 H1 M2 H3 ∧ H3 Dl = some (.dK accV) ∧ RepsK K (SM S1 M2) H3 accV acc ∧ W (i + 1) acc M2)) _ kw r2 (wt i acc M' hlt w) fun sl3 M3 σ3 H3 k3 x3 q3 => ?_
      · have z := mg y (wipe σ vs) H'' _ base
        rw [wipe_wipe] at z
        exact z
      · refine s3 S1 sl3 M3 σ3 H3 _ _ NoX k3 XL.no q3 fun b M4 H4 m4 x4 q4 => ?_
        have x34 := (x2.trans x3).trans x4
        cases b with
        | false =>
          rw [if_neg Bool.false_ne_true] at q4 ⊢
          exact ⟨acc, accV, M4, m4, x'.trans x34, x34.keep _ _ eD (nD m'), RepsK.mono x34.kp _ _ rD, q4⟩
        | true =>
          rw [if_pos rfl] at q4 ⊢
          refine s5 S1 sl3 M4 σ3 H4 _ _ NoX (k3.ext m4 x4) XL.no q4 fun dk0 M40 uk H40 m40 x40 r40 q40 => ?_
          obtain ⟨kk, ekk, q40⟩ := q40
          have euk := keyD_V (RepT.imm r40) ekk
          refine s4 S1 sl3 M40 σ3 H40 _ _ NoX ((k3.ext m4 x4).ext m40 x40) XL.no q40 fun d M5 u H5 m5 x5 r5 q5 => ?_
          obtain ⟨ql, qw⟩ := q5
          have x35 := (x34.trans x40).trans x5
          have e5 := x35.keep _ _ eD (nD m')
          -- the list with one item more
          have kp : Kp (SM S1 M5) H5 (SM S1 M5) (upd H5 Dl (.dK (putK accV kk u))) := fun b ob eb n => ⟨by rw [upd_ne (fun z => n (.inl (.inr z)))]; exact eb, n⟩
          refine ⟨accV, kk, euk, e5, by rw [rD.length]; exact ql, putD acc kk d, putK accV kk u, M5, ?_, ?_, upd_same, RepsK.mono kp _ _ ((RepsK.mono x35.kp _ _ rD).put r5), qw⟩
          · refine ⟨m5.nd, fun e he => (m5.at_ e he).mono kp ?_, fun a h => ?_, m5.dis⟩
            · rw [upd_ne]
              intro z
              exact nD m5 (z ▸ List.mem_map.mpr ⟨e, he, rfl⟩)
            · by_cases z : a = Dl
              · rw [z, upd_same]; exact fun z => by cases z
              · rw [upd_ne z]; exact m5.trk a h
          · have xx := x'.trans x35
            refine ⟨fun b ob eb n => ?_, xx.new, fun b hb => ?_⟩
            · rw [upd_ne (ne_of_none eb hD)]
              exact xx.keep b ob eb n
            · by_cases z : b = Dl
              · rw [z, upd_same]; exact fun z => by cases z
              · rw [upd_ne z]; exact xx.trk b hb
    · have e : i = it.n := by omega
      subst e
      refine .inl ⟨gg.2, ?_⟩
      have q := we acc M' w
      have l' := l.ext (x1.trans x')
      have nD : Dl ∉ keys M' := fun z => m'.dis Dl z (.inr rfl)
      have nS : ¬ S0 Dl := fun z => m1.trk Dl z hD
      have hH : H Dl = none := Classical.byContradiction fun z => x1.trk Dl z hD
      cases o with
      | false =>
        have m0 : MemOk K S0 M' H' := m'.weak hs
        have kp : Kp (SM S1 M') H' (SM S0 M') H' := fun b o eb n => ⟨eb, fun z => n (z.elim (fun z => .inl (hs b z)) .inr)⟩
        exact l'.now m0 (.dic (fun z => z.elim nS nD) (.inl eD) (RepsK.mono kp _ _ rD)) q
      | true =>
        have sm : SM S0 (M' ++ [(Dl, .dic acc)]) = SM S1 M' := by
          funext a
          unfold SM
          rw [keys_append]
          refine propext ⟨fun h => ?_, fun h => ?_⟩
          · rcases h with h | h
            · exact .inl (.inl h)
            · rcases List.mem_append.mp h with h | h
              · exact .inr h
              · have : a = Dl := by simpa [keys] using h
                exact .inl (.inr this)
          · rcases h with (h | h) | h
            · exact .inl h
            · exact .inr (List.mem_append_right _ (by simp [keys, h]))
            · exact .inr (List.mem_append_left _ h)
        refine l (.ref Dl) _ _ _ ⟨?_, fun e he => ?_, fun a h => m'.trk a (hs a h), fun a ha => ?_⟩ ⟨(x1.trans x').keep, fun b hb => ?_, (x1.trans x').trk⟩ (.ref Dl) (q Dl nD)
        · rw [keys_append]
          refine List.nodup_append.mpr ⟨m'.nd, by simp [keys], fun a ha b hb z => ?_⟩
          have : b = Dl := by simpa [keys] using hb
          exact nD (by rw [← this, ← z]; exact ha)
        · rw [sm]
          rcases List.mem_append.mp he with he | he
          · exact m'.at_ e he
          · have : e = (Dl, .dic acc) := by simpa using he
            subst this
            exact ⟨accV, eD, rD⟩
        · rw [keys_append] at ha
          rcases List.mem_append.mp ha with h | h
          · exact fun z => m'.dis a h (.inl z)
          · have : a = Dl := by simpa [keys] using h
            rw [this]; exact nS
        · rw [keys_append] at hb
          rcases List.mem_append.mp hb with h | h
          · exact (x1.trans x').new b h
          · have : b = Dl := by simpa [keys] using h
            rw [this]; exact .inr hH
theorem de_dc (o : Bool) {scope : Scope} {own : List (Str × Nat)} {ifs : List Expr} {kx elt : Expr} {di : DI} {dg : DG} {tt : DT} {tk te : DE} (hc : X.calm = true) (hN : X.N.Nodup) (hi : DIx X E tg iter di) (ok : BlkOk X.N X.env.scope scope own)
    (hg : ∀ (s : Shared) (H : Hp) (C : Addr) (cl : List (Str × Addr)) (fp : List Addr), DCx (X.blk s H scope (compEnvC scope cl C X.env) fp) tg (own.map (·.2)) dg)
    (ht : ∀ (s : Shared) (H : Hp) (C : Addr) (cl : List (Str × Addr)) (fp : List Addr), DPx (X.blk s H scope (compEnvC scope cl C X.env) fp) (fun _ => E0) ifs tt)
    (hk : ∀ (s : Shared) (H : Hp) (C : Addr) (cl : List (Str × Addr)) (fp : List Addr), DEx (X.blk s H scope (compEnvC scope cl C X.env) fp) (fun _ => E0) kx tk)
    (he : ∀ (s : Shared) (H : Hp) (C : Addr) (cl : List (Str × Addr)) (fp : List Addr), DEx (X.blk s H scope (compEnvC scope cl C X.env) fp) (fun _ => E0) elt te) (hs : ∀ x, foldedSetIterable iter X.env x = pure x := by intro _; rfl) :
    DEx X E (.DictComp kx elt [⟨tg, iter, ifs, 0⟩] scope pos) (dDc o di (own.map (·.2)) dg tt tk te) := by
  obtain ⟨wi, p1, s1⟩ := hi
  refine ⟨_, pe_dc (g := fun v σ H Q => ∀ s H0 C cl fp, (hg s H0 C cl fp).ex.choose v σ H Q) (tt := fun σ H Q => ∀ s H0 C cl fp, (ht s H0 C cl fp).ex.choose σ H Q) (tk := fun σ H Q => ∀ s H0 C cl fp, (hk s H0 C cl fp).ex.choose σ H Q) (tv := fun σ H Q => ∀ s H0 C cl fp, (he s H0 C cl fp).ex.choose σ H Q) hc hN p1 ok
    (fun s H0 C cl fp => ⟨fun pins st σ H v u Q I r h => (hg s H0 C cl fp).ex.choose_spec.1.run pins st σ H v u Q I r (h s H0 C cl fp)⟩)
    (fun s H0 C cl fp => ⟨fun pins st σ H Q I h => (ht s H0 C cl fp).ex.choose_spec.1.run pins st σ H Q I (h s H0 C cl fp)⟩)
    (fun s H0 C cl fp => ⟨fun pins st σ H Q I h => (hk s H0 C cl fp).ex.choose_spec.1.run pins st σ H Q I (h s H0 C cl fp)⟩)
    (fun s H0 C cl fp => ⟨fun pins st σ H Q I h => (he s H0 C cl fp).ex.choose_spec.1.run pins st σ H Q I (h s H0 C cl fp)⟩) hs, ?_⟩
  refine sim_dc (E' := fun _ => E0) s1 ?_ ?_ ?_ ?_ ?_
  · exact fun S0 sl M σ H v d Q QD k r h l s H0 C cl fp => (hg s H0 C cl fp).ex.choose_spec.2.1 S0 sl M σ H v d Q QD k r h l
  · exact fun v σ H Q h s H0 C cl fp => (hg s H0 C cl fp).ex.choose_spec.2.2.1 v σ H Q (h s H0 C cl fp)
  · exact fun S0 sl M σ H Q QD ED k xl h l s H0 C cl fp => (ht s H0 C cl fp).ex.choose_spec.2 S0 sl M σ H Q QD ED k xl h l
  · exact fun S0 sl M σ H Q QD ED k xl h l s H0 C cl fp => (hk s H0 C cl fp).ex.choose_spec.2 S0 sl M σ H Q QD ED k xl h l
  · exact fun S0 sl M σ H Q QD ED k xl h l s H0 C cl fp => (he s H0 C cl fp).ex.choose_spec.2 S0 sl M σ H Q QD ED k xl h l
end
end OD

/-! OD15: dicts that are walked (locked meanwhile), setdefault, clear, list(d). -/
namespace OD
open PySem PySem.Spec L2
section
variable {X : Cx} {E : L2.St → XK} {K : PySem.W.Frag} {S0 : Mark} {M : Mem} {H : Hp}
def keyV : Key → D
  | .inl i => .int i
  | .inr z => .str z
theorem rep_key {S : Mark} (k : Key) : Rep K S H (kV k) (keyV k) := by
  cases k with
  | inl i => exact .int i
  | inr z => exact .str z
/-- an owned object's node is another one, the object at its address another one -/
theorem set_back {k : Nat} {p : Addr} {n n' : N} (h : M[k]? = some (p, n)) : (M.set k (p, n')).set k (p, n) = M := by
  refine List.ext_getElem? fun j => ?_
  by_cases z : k = j
  · subst z
    rw [List.getElem?_set_self (by rw [List.length_set]; exact (List.getElem?_eq_some_iff.mp h).1), h]
  · rw [List.getElem?_set_ne z, List.getElem?_set_ne z]
/-- for as long as t runs the dict at the k-th place is locked -/
def dLockS (k : Nat) (td : DS) : DS := fun Dd sl M => ∃ (p : Addr) (kvs : List (Key × D)), M[k]? = some (p, .dic kvs) ∧ ∀ (od : Obj) (ws : List (Key × V)),
  td { nx := fun sl' M' => M'[k]? = some (p, .lok od ws kvs) ∧ Dd.nx sl' (M'.set k (p, .dic kvs)), rt := fun d M' => M'[k]? = some (p, .lok od ws kvs) ∧ Dd.rt d (M'.set k (p, .dic kvs)),
       bk := fun sl' M' => M'[k]? = some (p, .lok od ws kvs) ∧ Dd.bk sl' (M'.set k (p, .dic kvs)), ct := fun sl' M' => M'[k]? = some (p, .lok od ws kvs) ∧ Dd.ct sl' (M'.set k (p, .dic kvs)), ex := fun _ => NoX } sl (M.set k (p, .lok od ws kvs))
def dLockE (k : Nat) (td : DE) : DE := fun sl M ED Q => ∃ (p : Addr) (kvs : List (Key × D)), M[k]? = some (p, .dic kvs) ∧ ∀ (od : Obj) (ws : List (Key × V)), td sl (M.set k (p, .lok od ws kvs)) NoX fun d M' => M'[k]? = some (p, .lok od ws kvs) ∧ Q d (M'.set k (p, .dic kvs))
theorem lock_in {k : Nat} {p : Addr} {kvs : List (Key × D)} {od : Obj} {ws : List (Key × V)} (m : MemOk K S0 M H) (e : M[k]? = some (p, .dic kvs)) (h2 : RepsK K (SM S0 M) H ws kvs) :
    MemOk K S0 (M.set k (p, .lok od ws kvs)) (upd H p (.frz od (.dK ws))) ∧ Ext M H (M.set k (p, .lok od ws kvs)) (upd H p (.frz od (.dK ws))) := by
  have x : Ext M H (M.set k (p, .lok od ws kvs)) (upd H p (.frz od (.dK ws))) := .write e
  have kp : Kp (SM S0 M) H (SM S0 M) (upd H p (.frz od (.dK ws))) := by
    have := x.kp (S0 := S0)
    rwa [SM_keys (keys_set e)] at this
  exact ⟨m.write e ⟨upd_same, RepsK.mono kp _ _ h2⟩, x⟩
theorem lock_out {M' : Mem} {H' : Hp} {k : Nat} {p : Addr} {kvs : List (Key × D)} {od : Obj} {ws : List (Key × V)} (m : MemOk K S0 M' H') (e : M'[k]? = some (p, .lok od ws kvs)) :
    H' p = some (.frz od (.dK ws)) ∧ MemOk K S0 (M'.set k (p, .dic kvs)) (upd H' p (.dK ws)) ∧ Ext M' H' (M'.set k (p, .dic kvs)) (upd H' p (.dK ws)) := by
  have x : Ext M' H' (M'.set k (p, .dic kvs)) (upd H' p (.dK ws)) := .write e
  have kp : Kp (SM S0 M') H' (SM S0 M') (upd H' p (.dK ws)) := by
    have := x.kp (S0 := S0)
    rwa [SM_keys (keys_set e)] at this
  obtain ⟨h1, h2⟩ := m.at_ _ (List.mem_of_getElem? e)
  exact ⟨h1, m.write e ⟨_, upd_same, RepsK.mono kp _ _ h2⟩, x⟩
theorem sim_lockS {k : Nat} {t : TS} {td : DS} (s : SimS K E t td) : SimS K E (tLock t) (dLockS k td) := by
  intro S0 sl M σ H Dd Dn ok l h
  obtain ⟨p, kvs, e, h⟩ := h
  obtain ⟨ws, h1, h2⟩ := ok.mem.at_ _ (List.mem_of_getElem? e)
  refine ⟨p, .dK ws, h1, True.intro, fun od => ?_⟩
  obtain ⟨m1, x1⟩ := lock_in (od := od) ok.mem e h2
  refine s S0 sl _ σ _ _ _ (ok.ext m1 x1) ⟨fun sl' M' σ' H' k' x' q => ?_, fun d M' v H' m' x' r q => ?_, fun sl' M' σ' H' k' x' q => ?_, fun sl' M' σ' H' k' x' q => ?_, fun _ _ _ _ _ _ => XL.no⟩ (h od ws)
  · obtain ⟨g1, g2, g3⟩ := lock_out k'.mem q.1
    exact ⟨g1, l.nx sl' _ σ' _ (k'.ext g2 g3) ((x1.trans x').trans g3) q.2⟩
  · obtain ⟨g1, g2, g3⟩ := lock_out m' q.1
    exact ⟨g1, l.rt d _ v _ g2 ((x1.trans x').trans g3) (r.ext g3) q.2⟩
  · obtain ⟨g1, g2, g3⟩ := lock_out k'.mem q.1
    exact ⟨g1, l.bk sl' _ σ' _ (k'.ext g2 g3) ((x1.trans x').trans g3) q.2⟩
  · obtain ⟨g1, g2, g3⟩ := lock_out k'.mem q.1
    exact ⟨g1, l.ct sl' _ σ' _ (k'.ext g2 g3) ((x1.trans x').trans g3) q.2⟩
theorem sim_lockE {k : Nat} {t : TE} {td : DE} (s : SimE K E t td) : SimE K E (tLockE t) (dLockE k td) := by
  intro S0 sl M σ H Q QD ED ok xl h l
  obtain ⟨p, kvs, e, h⟩ := h
  obtain ⟨ws, h1, h2⟩ := ok.mem.at_ _ (List.mem_of_getElem? e)
  refine ⟨p, .dK ws, h1, True.intro, fun od => ?_⟩
  obtain ⟨m1, x1⟩ := lock_in (od := od) ok.mem e h2
  refine s S0 sl _ σ _ _ _ NoX (ok.ext m1 x1) XL.no (h od ws) fun d M' v H' m' x' r q => ?_
  obtain ⟨g1, g2, g3⟩ := lock_out m' q.1
  exact ⟨g1, l d _ v _ g2 ((x1.trans x').trans g3) (r.ext g3) q.2⟩
theorem ds_lock {st : Stmt} {td : DS} (k : Nat) (h : DSx X E st td) : DSx X E st (dLockS k td) := by
  obtain ⟨t, p, s⟩ := h
  exact ⟨_, ps_lock p, sim_lockS s⟩
theorem de_lock {e : Expr} {td : DE} (k : Nat) (h : DEx X E e td) : DEx X E e (dLockE k td) := by
  obtain ⟨t, p, s⟩ := h
  exact ⟨_, pe_lock p, sim_lockE s⟩
/-! for k in d -/
def itKeys (kvs : List (Key × D)) (gd : Mem → Prop) : Itm := ⟨kvs.length, fun i => ((kvs[i]?).map fun kv => keyV kv.1).getD .non, gd⟩
def diKeys (da : DE) : DI := fun sl M ED RD => da sl M ED fun x M1 => ∃ (p : Addr) (k : Nat) (od : Obj) (ws : List (Key × V)) (kvs : List (Key × D)), x = .ref p ∧ M1[k]? = some (p, .lok od ws kvs) ∧ RD (itKeys kvs fun M' => M'[k]? = some (p, .lok od ws kvs)) M1
theorem RepsK.at_ {S : Mark} : ∀ {kvs : List (Key × D)} {ws : List (Key × V)}, RepsK K S H ws kvs → ws.map (·.1) = kvs.map (·.1) := by
  intro kvs
  induction kvs with
  | nil => intro ws h; cases h; rfl
  | cons p r ih =>
    intro ws h
    cases h with
    | cons a b => rw [List.map_cons, List.map_cons, ih b]
theorem di_keys {tg e : Expr} {da : DE} (h : DEx X E e da) : DIx X E tg e (diKeys da) := by
  obtain ⟨t, p, s⟩ := h
  refine ⟨_, pi_keys p, fun S0 sl M σ H R RD ED k xl hd l => s S0 sl M σ H _ _ ED k xl hd fun d M1 v H1 m1 x1 r1 q1 => ?_⟩
  obtain ⟨a, j, od, ws, kvs, rfl, e, q⟩ := q1
  cases r1
  obtain ⟨h1, h2⟩ := m1.at_ _ (List.mem_of_getElem? e)
  refine ⟨a, od, rfl, .inl ⟨ws, h1, l _ M1 _ H1 m1 x1 (fun S1 M' H' mk m x g => ?_) q⟩⟩
  obtain ⟨g1, g2⟩ := m.at_ _ (List.mem_of_getElem? g)
  have hl : ws.length = kvs.length := g2.length
  refine ⟨fun i hi => ?_, g1, by rw [hl]; exact Nat.le_refl _⟩
  have hi' : i < kvs.length := hi
  refine ⟨⟨g1, by rw [hl]; exact hi'⟩, fun y H'' hy => ?_⟩
  obtain ⟨rfl, kk, vv, e1, rfl⟩ := hy
  refine ⟨m, .refl _ _, ?_⟩
  have e2 := congrArg (fun z => z[i]?) (RepsK.at_ g2)
  simp only [List.getElem?_map] at e2
  rw [e1] at e2
  show Rep X.K _ _ _ (((kvs[i]?).map fun kv => keyV kv.1).getD .non)
  rw [List.getElem?_eq_getElem hi'] at e2 ⊢
  have e3 : kk = (kvs[i]).1 := by simpa using e2
  show Rep _ _ _ _ (keyV (kvs[i]).1)
  rw [← e3]
  exact rep_key kk
/-! d.setdefault(k, x), the dict owned -/
def dSetd (da db dc : DE) : DE := fun sl M ED Q => da sl M ED fun x M1 => vw M1 x (fun w => ∃ kvs, w = .dic kvs) ∧ db sl M1 ED fun y M2 => dc sl M2 ED fun z M3 => ∃ (p : Addr) (j : Nat) (kvs : List (Key × D)) (k : Key), x = .ref p ∧ M3[j]? = some (p, .dic kvs) ∧ keyD y = some k ∧ kvs.length < sizeLine ∧
  match lookD kvs k with
  | some d => Q d M3
  | none => Q z (M3.set j (p, .dic (putD kvs k z)))
theorem de_setd {o e f : Expr} {apos cpos : Pos} {da db dc : DE} (ho : DEx X E o da) (he : DEx X E e db) (hf : DEx X E f dc) (m : M2 X o "setdefault" apos e f cpos := by exact ⟨rfl, rfl, rfl, rfl⟩) : DEx X E (.Call (.Attribute o "setdefault" apos) [e, f] [] cpos) (dSetd da db dc) := by
  obtain ⟨ta, p1, s1⟩ := ho
  obtain ⟨tb, p2, s2⟩ := he
  obtain ⟨tc, p3, s3⟩ := hf
  refine ⟨_, pe_dsetd p1 p2 p3 m, fun S0 sl M σ H Q QD ED k xl hd l => s1 S0 sl M σ H _ _ ED k xl hd fun d1 M1 x H1 m1 x1 r1 q1 => ?_⟩
  obtain ⟨q0, q1⟩ := q1
  obtain ⟨w, ⟨kvs, rfl⟩, rw0⟩ := vw_of m1 r1 q0
  obtain ⟨a, vs, rfl, h1, _⟩ := rw0.dic_inv
  refine ⟨a, rfl, .inl ⟨vs, h1⟩, s2 S0 sl M1 σ H1 _ _ ED (k.ext m1 x1) (xl.ext x1) q1 fun d2 M2 y H2 m2 x2 r2 q2 => ?_⟩
  refine s3 S0 sl M2 σ H2 _ _ ED ((k.ext m1 x1).ext m2 x2) ((xl.ext x1).ext x2) q2 fun d3 M3 z H3 m3 x3 r3 q3 => ?_
  obtain ⟨p, j, kvs, k', rfl, e, ek, hl, q⟩ := q3
  cases r1
  obtain ⟨ws, g1, g2⟩ := m3.at_ _ (List.mem_of_getElem? e)
  cases keyD_V (.imm r2) ek
  have x4 := (x1.trans x2).trans x3
  refine ⟨ws, k', g1, rfl, by rw [g2.length]; exact hl, fun v hv => ?_, fun hn => ?_⟩
  · cases e2 : lookD kvs k' with
    | none => rw [g2.valN e2] at hv; cases hv
    | some d =>
      rw [e2] at q
      obtain ⟨v', e3, r⟩ := g2.val e2
      rw [hv] at e3
      cases e3
      exact l _ M3 _ H3 m3 x4 r q
  · cases e2 : lookD kvs k' with
    | some d => obtain ⟨v', e3, r⟩ := g2.val e2; rw [hn] at e3; cases e3
    | none =>
      rw [e2] at q
      have x5 : Ext M3 H3 (M3.set j (a, .dic (putD kvs k' d3))) (upd H3 a (.dK (putK ws k' z))) := .write e
      have kp : Kp (SM S0 M3) H3 (SM S0 M3) (upd H3 a (.dK (putK ws k' z))) := by
        have := x5.kp (S0 := S0)
        rwa [SM_keys (keys_set e)] at this
      have m5 : MemOk X.K S0 (M3.set j (a, .dic (putD kvs k' d3))) (upd H3 a (.dK (putK ws k' z))) := m3.write e ⟨_, upd_same, RepsK.mono kp _ _ (g2.put r3)⟩
      exact l d3 _ z _ m5 (x4.trans x5) (r3.ext x5) q
/-! d.clear() -/
def dClear (da : DE) : DE := fun sl M ED Q => da sl M ED fun x M1 => ∃ (p : Addr) (j : Nat) (kvs : List (Key × D)), x = .ref p ∧ M1[j]? = some (p, .dic kvs) ∧ Q .non (M1.set j (p, .dic []))
theorem de_clear {o : Expr} {apos cpos : Pos} {da : DE} (ho : DEx X E o da) (hbase : attributeBase o "clear" X.env (eval o X.env) = eval o X.env := by rfl) (hline : (apos.endLine == cpos.line) = true := by rfl) : DEx X E (.Call (.Attribute o "clear" apos) [] [] cpos) (dClear da) := by
  obtain ⟨ta, p1, s1⟩ := ho
  refine ⟨_, pe_dclear p1 hbase hline, fun S0 sl M σ H Q QD ED k xl hd l => s1 S0 sl M σ H _ _ ED k xl hd fun d1 M1 x H1 m1 x1 r1 q1 => ?_⟩
  obtain ⟨p, j, kvs, rfl, e, q⟩ := q1
  cases r1
  obtain ⟨ws, g1, g2⟩ := m1.at_ _ (List.mem_of_getElem? e)
  have x5 : Ext M1 H1 (M1.set j (p, .dic [])) (upd H1 p (.dK [])) := .write e
  have m5 : MemOk X.K S0 (M1.set j (p, .dic [])) (upd H1 p (.dK [])) := m1.write e ⟨[], upd_same, .nil⟩
  exact ⟨.inr (.inr (.inl ⟨rfl, .inl ⟨ws, g1⟩⟩)), p, ws, rfl, rfl, g1, l .non _ .non _ m5 (x1.trans x5) .non q⟩
/-! list(d) -/
def listKD (o : Bool) : RCD := oneD fun d M Q => match d with
  | .dic kvs => al o (.lst (kvs.map fun kv => keyV kv.1)) M Q
  | _ => False
def rListKR : List V → Hp → VK → Prop := fun xs H Q => ∃ (a : Addr) (kvs : List (Key × V)), xs = [.ref a] ∧ Rd H a (.dK kvs) ∧ ∀ p, H p = none → Q (.ref p) (upd H p (.lst (kvs.map fun kv => kV kv.1)))
theorem reps_keys {S : Mark} : ∀ (ks : List Key), Reps K S H (ks.map kV) (ks.map keyV) := by
  intro ks
  induction ks with
  | nil => exact .nil
  | cons k r ih => exact .cons (rep_key k) ih
theorem sc_listK {o : Bool} : SimC K rListKR (listKD o) := sc_one fun S0 M H v d Q QD m r h l => by
  cases d with
  | dic kvs =>
    obtain ⟨a, vs, rfl, h1, r1⟩ := r.dic_inv
    refine ⟨a, vs, rfl, h1, ?_⟩
    have e1 : (vs.map fun kv => kV kv.1) = (vs.map (·.1)).map kV := by rw [List.map_map]; rfl
    have e2 : (kvs.map fun kv => keyV kv.1) = (vs.map (·.1)).map keyV := by rw [RepsK.at_ r1, List.map_map]; rfl
    have h : al o (.lst (kvs.map fun kv => keyV kv.1)) M QD := h
    rw [e1]
    rw [e2] at h
    exact al_lst m (reps_keys _) h l
  | _ => exact h.elim
/-! isinstance of an own class -/
def isiOD (rel : Value → Addr → Option Bool) : RCD := twoD fun d e M Q => match e with
  | .cls D => match d with
    | .obj C _ => ∃ b, rel (.ref C) D = some b ∧ Q (.bl b) M
    | d => ∃ t b, tyD d = some t ∧ rel (.type t) D = some b ∧ Q (.bl b) M
  | _ => False
/-- what a class must have that its objects' class is looked at -/
structure InsTy (K : PySem.W.Frag) (C : Addr) : Prop where
  cl : Cls K C
  ha : PySem.W.findIn K (.ref C) "__class__" = some (some (.builtin "object.__class__"))
  hn : PySem.W.specialIn K (.builtin "object.__class__") "__get__" = some (some (.builtin "getset_descriptor.__get__"))
  ht : PySem.W.takesIn K (.builtin "object.__class__") = some true
  hm : PySem.W.mroIn K C (.type "object") = some true
structure IsiOk (K : PySem.W.Frag) (rel : Value → Addr → Option Bool) : Prop where
  kit : ∀ t D b, rel t D = some b → PySem.W.kitOne K t (.ref D) = some b
  ins : ∀ C D b, rel (.ref C) D = some b → InsTy K C
theorem sc_isiO {rel : Value → Addr → Option Bool} (c : IsiOk K rel) : SimC K (rIsi K) (isiOD rel) := sc_two fun S0 M H v w d e Q QD m r r2 h l => by
  cases e with
  | cls D =>
    have ew : w = .ref D := by
      cases r2 with
      | imm r => cases r; rfl
    subst ew
    have fin : ∀ t b, TyX K H v t → rel t D = some b → QD (.bl b) M → rIsi K [v, .ref D] H Q := fun t b hx e q => ⟨v, .ref D, t, .ref D, b, rfl, .own D, hx, c.kit t D b e, l.now m (.bl _) q⟩
    cases d with
    | obj C fs =>
      obtain ⟨b, e, q⟩ := h
      obtain ⟨h1, h2, h3, h4, h5⟩ := c.ins C D b e
      cases r with
      | imm r => cases r with
        | obj _ g _ => exact fin _ b (.base (.ins g h1 h2 h3 h4 h5)) e q
      | obj g _ => exact fin _ b (.base (.ins g h1 h2 h3 h4 h5)) e q
    | non => obtain ⟨t, b, et, e, q⟩ := h; cases et; cases r.non_inv; exact fin _ b (.base .non) e q
    | bl i => obtain ⟨t, b, et, e, q⟩ := h; cases et; cases r.bl_inv; exact fin _ b (.base (.bl _)) e q
    | int i => obtain ⟨t, b, et, e, q⟩ := h; cases et; cases r.int_inv; exact fin _ b (.base (.int _)) e q
    | str i => obtain ⟨t, b, et, e, q⟩ := h; cases et; cases r.str_inv; exact fin _ b (.base (.str _)) e q
    | lst xs => obtain ⟨t, b, et, e, q⟩ := h; cases et; obtain ⟨a, vs, rfl, g, _⟩ := r.lst_inv; exact fin _ b (.base (.lst g)) e q
    | dic xs => obtain ⟨t, b, et, e, q⟩ := h; cases et; obtain ⟨a, vs, rfl, g, _⟩ := r.dic_inv; exact fin _ b (g.elim (fun g => .base (.dK g)) fun ⟨o, g⟩ => .fDict g) e q
    | tup xs =>
      obtain ⟨t, b, et, e, q⟩ := h
      cases et
      obtain ⟨a, vs, rfl, h1, r1⟩ := r.tup_inv
      rcases h1 with (h1 | ⟨o, h1⟩) | ⟨o, its, n', h1, h2, _⟩
      · exact fin _ b (.base (.tup h1)) e q
      · exact fin _ b (.fTuple h1) e q
      · exact fin _ b (.kTuple h1 h2) e q
    | _ => obtain ⟨t, b, et, e, q⟩ := h; cases et
  | _ => exact h.elim
end
end OD

/-! OD16: extend; is True, is False; d[k], xs[i] exchanged. -/
namespace OD
open PySem PySem.Spec L2 PyProof.Rows

theorem extendT (l b : Addr) (us vs : Array Value) (n n2 : Nat) (dd : Option Addr) (zs : Array (Option Value)) (h0 : ¬(!us.isEmpty && Builtin.List.listTooLong (us.size + vs.size)) = true) (h1 : us.size ≤ sizeLine) (h2 : us.size + vs.size ≤ sizeLine + 1) :
    Meets (Builtin.«list.extend» ⟨[.ref l, .ref b], []⟩) (fun _ R u => u.heap.get? l = some { cls := .type "list", dict := none, data := .seq us n, slots := #[] } ∧ u.heap.get? b = some { cls := .type "tuple", dict := dd, data := .seq vs n2, slots := zs } ∧
      R (.ok (.ret Value.none)) { u with heap := u.heap.update l (Obj.mapSeq fun x => x ++ vs), toks := u.toks }) :=
  .of_wp fun prog w A R u k => by
    obtain ⟨hp, g, d, tk, os⟩ := u; obtain ⟨hl, hb, k⟩ := k
    have g1 := AutoSeq1.idx_int; have g2 := AutoSeq1.sub_tuple_tuple; have g3 := AutoSeq1.sub_list_list; have g4 := AutoSeq1.sub_tuple_list; have g5 := AutoSeq1.sub_list_tuple
    have hz : (us ++ vs).size ≤ sizeLine + 1 := by rw [Array.size_append]; exact h2
    wp_walk using (wpAny_updateSeq hl rfl (hz := h1) (_hz' := hz)), AutoSeq1.wpAny_loadPart' hl, AutoSeq1.wpAny_loadPart' hb
    exact ⟨_, rfl, k⟩
def rExtT (K : PySem.W.Frag) : V → List V → Hp → VK → Prop := fun x vs H Q => ∃ l b xs zs, x = .ref l ∧ vs = [.ref b] ∧ H l = some (.lst xs) ∧ SqT K H b zs ∧ xs.length + zs.length ≤ sizeLine ∧ Q .non (upd H l (.lst (xs ++ zs)))
theorem mt_extT {X : Cx} : MtR X "list.extend" (rExtT X.K) := by
  intro pins s σ H x vs v us Q I rx rv h
  obtain ⟨l, b, xs, zs, rfl, rfl, hH, hB, hz, q⟩ := h
  cases rx
  obtain ⟨u, rfl, ru⟩ := rv.one
  cases ru
  obtain ⟨z, its, n, r, hl, e⟩ := I.lstM hH
  obtain ⟨ts, rt, p, hz2⟩ := I.tuple hB
  have pT : s.heap.IsTuple b ts.toArray := p
  obtain ⟨⟨c, dd, dt, sl⟩, e2, hc, n2, hd⟩ := pT
  have hc : c = .type "tuple" := hc
  have hd : dt = .seq ts.toArray n2 := hd
  subst hc; subst hd
  have hl1 := r.length
  have hl2 := rt.length
  have hsz : its.toArray.size + ts.toArray.size ≤ sizeLine := by rw [List.size_toArray, List.size_toArray]; omega
  have hlong : ¬ (!its.toArray.isEmpty && Builtin.List.listTooLong (its.toArray.size + ts.toArray.size)) = true := by
    rw [notLongL hsz, Bool.and_false]
    simp
  refine call_meets F.slot_list_extend ⟨_, e, rfl⟩ F.entry_list_extend (F.args_list_extend_2 _ _) (extendT l b its.toArray ts.toArray n n2 dd sl hlong (by rw [List.size_toArray]; omega) (by omega)) ⟨e, e2, ?_⟩
  exact ⟨.non, _, I.lset (its' := its ++ ts) hH e (by simp) (r.append rt) (by rw [List.length_append]; omega), rfl, q⟩
def rExtA (K : PySem.W.Frag) : V → List V → Hp → VK → Prop := fun x vs H Q => rExtend x vs H Q ∨ rExtT K x vs H Q
theorem mt_extA {X : Cx} : MtR X "list.extend" (rExtA X.K) := by
  intro pins s σ H x vs v us Q I rx rv h
  rcases h with h | h
  · exact mt_extend pins s σ H x vs v us Q I rx rv h
  · exact mt_extT pins s σ H x vs v us Q I rx rv h
def extF : List D → List D → (List D → Mem) → DK → Prop := fun xs ds wr Q => match ds with
  | [.lst ys] => xs.length + ys.length ≤ sizeLine ∧ Q .non (wr (xs ++ ys))
  | [.tup ys] => xs.length + ys.length ≤ sizeLine ∧ Q .non (wr (xs ++ ys))
  | _ => False
theorem sm_ext {K : PySem.W.Frag} : SimM K (rExtA K) extF := by
  intro S0 M H p vs ds j xs Q QD m rs e h l
  cases rs with
  | nil => exact h.elim
  | cons r rs =>
    rename_i v vs d ds
    cases rs with
    | cons _ _ => cases d <;> exact h.elim
    | nil =>
      obtain ⟨ws, g1, g2⟩ := m.at_ _ (List.mem_of_getElem? e)
      cases d with
      | tup ys =>
        obtain ⟨hl, q⟩ := h
        obtain ⟨a, us, rfl, t1, t2⟩ := r.tup_inv
        exact .inr ⟨p, a, ws, us, rfl, rfl, g1, t1, by rw [g2.length, t2.length]; exact hl, wr_lst m e (g2.append t2) .non q l⟩
      | lst ys =>
        obtain ⟨hl, q⟩ := h
        obtain ⟨a, us, rfl, t1, t2⟩ := r.lst_inv
        exact .inl ⟨p, a, ws, us, rfl, rfl, g1, t1, by rw [g2.length, t2.length]; exact hl, wr_lst m e (g2.append t2) .non q l⟩
      | _ => exact h.elim
end OD

/-! OD17: x[i] as a target among others; functions as values. -/
namespace OD
open PySem PySem.Spec L2
def dgSub (da di : DE) : DG := fun d sl M Q => da sl M (fun _ _ _ => False) fun x M2 => di sl M2 (fun _ _ _ => False) fun i M3 => mutN M3 x fun n wr => setD n i d wr fun M' => Q sl M'
section
variable {X : Cx} {E : L2.St → XK} {K : PySem.W.Frag} {fe a e o i : Expr} {es : List Expr} {pos p : Pos} {df da di : DE} {dr : DA} {S : Addr → FD → Prop} {ks : List Nat} {k : Nat} {tf : TE} {t : TA}
theorem dg_sub (hu : X.A.units + 64 < cLine) (ho : DEx X (fun _ => E0) o da) (hi : DEx X (fun _ => E0) i di)
    (ha : ∀ v, assign (.Subscript o i pos) X.env v = (do
      let ov ← holding [v] (eval o X.env)
      let iv ← holding [v, ov] (eval i X.env)
      standAt pos
      holding [v, ov, iv] (setItem ov iv v)
      release [v, ov, iv] []) := by intro _; rfl) : DGx X (.Subscript o i pos) (dgSub da di) := by
  obtain ⟨to, p2, s2⟩ := ho
  obtain ⟨ti, p3, s3⟩ := hi
  refine ⟨_, pg_sub p2 p3 (set_all (by omega)) ha, fun S0 sl M σ H v d Q QD k r h l => ?_⟩
  refine s2 S0 sl M σ H _ _ (fun _ _ _ => False) k (fun _ _ _ _ _ _ _ _ z => z.elim) h fun x M2 x' H2 m2 x2 r2 q2 => ?_
  have k2 := k.ext m2 x2
  refine s3 S0 sl M2 σ H2 _ _ (fun _ _ _ => False) k2 (fun _ _ _ _ _ _ _ _ z => z.elim) q2 fun i M3 i' H3 m3 x3 r3 q3 => ?_
  have x13 := x2.trans x3
  have rv := r.ext x13
  have rx := r2.ext x3
  cases x with
  | ref p =>
    cases rx
    obtain ⟨j, n, e, q⟩ := q3
    have g := m3.at_ _ (List.mem_of_getElem? e)
    have fin : ∀ (n' : N) (ob : HO), NodeAt X.K (SM S0 M3) (upd H3 p ob) p n' → QD sl (M3.set j (p, n')) → Q σ (upd H3 p ob) := fun n' ob g' q' =>
      l sl _ σ _ (k.ext (m3.write e g') (x13.trans (.write e))) (x13.trans (.write e)) q'
    cases n with
    | lst xs =>
      cases i with
      | int z =>
        cases r3
        obtain ⟨vs, h1, h2⟩ := g
        obtain ⟨t, e2, q⟩ := q
        refine .inl ⟨p, vs, z, t, rfl, rfl, h1, by rw [h2.length]; exact e2, fin (.lst (xs.set t d)) _ ⟨_, upd_same, Reps.mono (kp_write e _) _ _ (h2.set t rv)⟩ q⟩
      | _ => exact q.elim
    | dic kvs =>
      obtain ⟨ws, h1, h2⟩ := g
      cases i with
      | int z =>
        cases r3
        refine .inr ⟨p, _, rfl, DPut.k (k := Sum.inl z) h1 (by rw [h2.length]; exact q.1), fin (.dic (putD kvs (Sum.inl z) d)) _ ⟨_, upd_same, RepsK.mono (kp_write e _) _ _ (h2.put (k := Sum.inl z) rv)⟩ q.2⟩
      | str z =>
        cases r3
        refine .inr ⟨p, _, rfl, DPut.k (k := Sum.inr z) h1 (by rw [h2.length]; exact q.1), fin (.dic (putD kvs (Sum.inr z) d)) _ ⟨_, upd_same, RepsK.mono (kp_write e _) _ _ (h2.put (k := Sum.inr z) rv)⟩ q.2⟩
      | _ => exact q.elim
    | _ => exact q.elim
  | _ => exact q3.elim
/-- calls of functions that stand as values, of several levels -/
theorem pe_callV (A : ∀ f F, S f F → ∃ k, HeldD X.prog X.w X.K X.mg X.base k f F ∧ Room k X.A) (hf : PE X fe tf) (ha : PA X (e :: es) t)
    (ht : eval (.Call fe (e :: es) [] pos) X.env = (do callWith pos (← eval fe X.env) [] (backTo pos (starEach (e :: es) X.env)) (backToKw pos (keywordEach [] X.env))) := by rfl)
    (he : starEach (e :: es) X.env = (false, eval e X.env) :: starEach es X.env := by rfl) (hpl : (backTo pos (starEach es X.env)).any (·.1) = false := by rfl) : PE X (.Call fe (e :: es) [] pos) (tCallE X.K tf S t) := by
  refine ⟨fun pins s σ H Q I h => ?_⟩
  refine PyProof.Rows.Call_ (thn (hf.run pins s σ H _ I h) fun u s1 ⟨y, H1, I1, ry, f, F, ey, hS, q⟩ => ?_) ht
  subst ey
  obtain rfl : u = Value.ref f := ry
  obtain ⟨k, hk0, hr⟩ := A f F hS
  obtain ⟨fd, ps, G, hk, hb⟩ := hk0.ex
  refine PySem.W.callWith_K (h₀ := X.base) I1.ok.mod.kin hk (thn (ha.run pos pins s1 σ _ _ I1 q) fun us s2 ⟨vs, H2, I2, r, q⟩ => ⟨I2.kIn, ?_⟩) he hpl
  exact run_fn (dvs := []) G hr hb .nil pass0 I2 r (by rw [List.append_nil]; exact q)
theorem de_callV (A : ∀ f F, S f F → ∃ k, HeldD X.prog X.w X.K X.mg X.base k f F ∧ Room k X.A) (hf : DEx X E fe df) (ha : DAx X E (a :: es) dr)
    (ht : eval (.Call fe (a :: es) [] pos) X.env = (do callWith pos (← eval fe X.env) [] (backTo pos (starEach (a :: es) X.env)) (backToKw pos (keywordEach [] X.env))) := by rfl)
    (he : starEach (a :: es) X.env = (false, eval a X.env) :: starEach es X.env := by rfl) (hpl : (backTo pos (starEach es X.env)).any (·.1) = false := by rfl) : DEx X E (.Call fe (a :: es) [] pos) (dCallE df S [] dr) := by
  obtain ⟨tf, pf, sf⟩ := hf
  obtain ⟨t, pa, s⟩ := ha
  exact ⟨_, pe_callV A pf pa ht he hpl, sim_callE List.nodup_nil sf s⟩
theorem HeldD.of {x : Str} {ps : List Str} {F : FD} {f : Addr} {P : Program} {w : World} {mg : Str → Option Value} {base : Heap} (c : DefOk P w K mg base k x ps F) (m : mg x = some (.ref f)) : HeldD P w K mg base k f F := by
  obtain ⟨f', fd, m', kp, b, G⟩ := c
  rw [m] at m'
  cases m'
  exact ⟨fd, ps, G, kp, b⟩
end
end OD

/-! OD18: d.copy(), d.get(k), list(range(..)). -/
namespace OD
open PySem PySem.Spec L2
def rDCopy : V → List V → Hp → VK → Prop := fun x vs H Q => ∃ (a : Addr) (kvs : List (Key × V)), x = .ref a ∧ vs = [] ∧ Rd H a (.dK kvs) ∧ ∀ p, H p = none → Q (.ref p) (upd H p (.dK kvs))
theorem mtd_copy {X : Cx} : MtR X "dict.copy" rDCopy := by
  intro pins s σ H x vs v us Q I rx rv h
  obtain ⟨a, kvs, ex, ev, e, q⟩ := h
  subst ex
  subst ev
  obtain rfl : v = Value.ref a := rx
  have hus := rv.zero
  subst hus
  obtain ⟨z, hd, vs, rel, dd⟩ := dk_rd I.hok e
  refine call_meetsIn PySem.F.slot_dict_copy dd.typeIs PySem.F.entry_dict_copy (PySem.F.args_dict_copy_1 _) (meets_dict_copy (mixKind X.prog X.w) a hd) ⟨vs, dd, by rw [← rel.length]; exact z, fun h' g1 g2 hk => ?_⟩
  exact ⟨.ref s.heap.objs.size, _, I.laid (a := s.heap.objs.size) (o := .dK kvs) (t' := s.toks) hk (Nat.le_refl _) (dk_new z (beq_eq_false_iff_ne.mpr (Ne.symm (Nat.ne_of_lt I.big))) rel g1), rfl, q _ (I.hok.fresh (Nat.le_refl _))⟩
theorem pe_dcopy {X : Cx} {o : Expr} {to : TE} {apos cpos : Pos} (ho : PE X o to) (hbase : attributeBase o "copy" X.env (eval o X.env) = eval o X.env := by rfl) (hline : (apos.endLine == cpos.line) = true := by rfl) : PE X (.Call (.Attribute o "copy" apos) [] [] cpos) (fun σ H Q => to σ H fun x H1 => rDCopy x [] H1 Q) := by
  refine ⟨fun pins s σ H Q I h => ?_⟩
  refine wpAny_Call_method0_late hbase hline (thn (ho.run pins s σ H _ I h) fun v s1 ⟨x, H1, I1, r1, q1⟩ => ?_)
  obtain ⟨a, kvs, ex, _, e, _⟩ := id q1
  subst ex
  obtain rfl : v = Value.ref a := r1
  obtain ⟨h1, h2, _⟩ := isD_at I1 (.inl ⟨kvs, e⟩)
  exact ⟨"dict", "dict.copy", PySem.F.plainAttrs_dict, PySem.F.slot_dict_copy, PySem.F.type_dict_copy, h1, h2, Calls.callWith_builtin rfl (PySem.evalArgs_none (mtd_copy pins s1 σ H1 (.ref a) [] _ [] Q I1 rfl .nil q1))⟩
def dCopy (o : Bool) (da : DE) : DE := fun sl M ED Q => da sl M ED fun x M1 => vw M1 x fun w => ∃ kvs, w = .dic kvs ∧ al o (.dic kvs) M1 Q
section
variable {X : Cx} {E : L2.St → XK} {da db : DE}
theorem de_dcopy (b : Bool) {o : Expr} {apos cpos : Pos} (ho : DEx X E o da) (hbase : attributeBase o "copy" X.env (eval o X.env) = eval o X.env := by rfl) (hline : (apos.endLine == cpos.line) = true := by rfl) : DEx X E (.Call (.Attribute o "copy" apos) [] [] cpos) (dCopy b da) := by
  obtain ⟨ta, p1, s1⟩ := ho
  refine ⟨_, pe_dcopy p1 hbase hline, fun S0 sl M σ H Q QD ED k xl hd l => s1 S0 sl M σ H _ _ ED k xl hd fun d1 M1 x H1 m1 x1 r1 q1 => ?_⟩
  obtain ⟨w, ⟨kvs, rfl, q⟩, rw0⟩ := vw_of m1 r1 q1
  obtain ⟨a, vs, rfl, h1, rk⟩ := rw0.dic_inv
  exact ⟨a, vs, rfl, rfl, h1, al_dic m1 rk q (l.ext x1)⟩
def dGet1 (da db : DE) : DE := fun sl M ED Q => da sl M ED fun x M1 => vw M1 x (fun w => ∃ kvs, w = .dic kvs) ∧ db sl M1 ED fun y M2 => vw M2 x fun w => ∃ kvs k, w = .dic kvs ∧ keyD y = some k ∧ Q ((lookD kvs k).getD .non) M2
theorem de_get1 {o e : Expr} {apos cpos : Pos} (hu : X.A.units + 64 < cLine) (ho : DEx X E o da) (he : DEx X E e db) (m : M1 X o "get" apos e cpos := by exact ⟨rfl, rfl, rfl, rfl⟩) : DEx X E (.Call (.Attribute o "get" apos) [e] [] cpos) (dGet1 da db) := by
  obtain ⟨ta, p1, s1⟩ := ho
  obtain ⟨tb, p2, s2⟩ := he
  refine ⟨_, pe_dget1 (by omega) p1 p2 m, fun S0 sl M σ H Q QD ED k xl hd l => s1 S0 sl M σ H _ _ ED k xl hd fun d1 M1 x H1 m1 x1 r1 q1 => ?_⟩
  obtain ⟨q0, q1⟩ := q1
  obtain ⟨w, ⟨kvs, rfl⟩, rw0⟩ := vw_of m1 r1 q0
  obtain ⟨a, vs, rfl, h1, _⟩ := rw0.dic_inv
  refine ⟨a, rfl, .inl ⟨vs, h1⟩, s2 S0 sl M1 σ H1 _ _ ED (k.ext m1 x1) (xl.ext x1) q1 fun d2 M2 y H2 m2 x2 r2 q2 => ?_⟩
  obtain ⟨w, ⟨kvs, k', rfl, ek, q⟩, rw3⟩ := vw_of m2 (r1.ext x2) q2
  obtain ⟨a', vs', ea, h3, rk⟩ := rw3.dic_inv
  cases ea
  cases keyD_V (.imm r2) ek
  refine ⟨_, dgetR (k := k') h3, ?_⟩
  have x4 := x1.trans x2
  cases e : lookD kvs k' with
  | none => rw [e] at q; rw [rk.valN e]; exact l _ M2 _ H2 m2 x4 .non q
  | some d =>
    rw [e] at q
    obtain ⟨v, e2, r⟩ := rk.val e
    rw [e2]
    exact l _ M2 _ H2 m2 x4 r q
/-- list(range(a, b)) -/
def rgD (a b : Int) : List D := (List.range (b - a).toNat).map fun i => D.int (a + (i : Nat))
theorem reps_rg {K : PySem.W.Frag} {S : Mark} {H : Hp} (a b : Int) : Reps K S H (rgV a b) (rgD a b) := by
  unfold rgV rgD
  induction List.range (b - a).toNat with
  | nil => exact .nil
  | cons i r ih => exact .cons (.int _) ih
def dLstRg1 (o : Bool) (da : DE) : DE := fun sl M ED Q => da sl M ED fun x M1 => ∃ n, x = .int n ∧ RgOk 0 n ∧ al o (.lst (rgD 0 n)) M1 Q
def dLstRg2 (o : Bool) (da db : DE) : DE := fun sl M ED Q => da sl M ED fun x M1 => db sl M1 ED fun y M2 => ∃ i j, x = .int i ∧ y = .int j ∧ RgOk i j ∧ al o (.lst (rgD i j)) M2 Q
theorem de_lstRg1 (o : Bool) {a : Expr} {p pos p2 pos2 : Pos} (hc : X.calm = true) (hm : X.mg "list" = none) (hr : X.mg "range" = none) (ha : DEx X E a da) (hg : Gl X "list" := by rfl) (hg2 : Gl X "range" := by rfl)
    (na : starEach [a] X.env = (false, eval a X.env) :: starEach [] X.env := by rfl) (nb : starEach [.Call (.Name "range" p) [a] [] pos] X.env = (false, eval (.Call (.Name "range" p) [a] [] pos) X.env) :: starEach [] X.env := by rfl) : DEx X E (.Call (.Name "list" p2) [.Call (.Name "range" p) [a] [] pos] [] pos2) (dLstRg1 o da) := by
  obtain ⟨ta, p1, s1⟩ := ha
  refine ⟨_, pe_listRg hc hg hm (prg_1 hg2 hr p1 na) nb, fun S0 sl M σ H Q QD ED k xl hd l => s1 S0 sl M σ H _ _ ED k xl hd fun d1 M1 x H1 m1 x1 r1 q1 => ?_⟩
  obtain ⟨n, rfl, ok, q⟩ := q1
  cases r1
  exact ⟨n, rfl, ok, al_lst m1 (reps_rg 0 n) q (l.ext x1)⟩
theorem de_lstRg2 (o : Bool) {a b : Expr} {p pos p2 pos2 : Pos} (hc : X.calm = true) (hm : X.mg "list" = none) (hr : X.mg "range" = none) (ha : DEx X E a da) (hb : DEx X E b db) (hg : Gl X "list" := by rfl) (hg2 : Gl X "range" := by rfl)
    (na : starEach [a, b] X.env = (false, eval a X.env) :: starEach [b] X.env := by rfl) (na2 : starEach [b] X.env = (false, eval b X.env) :: starEach [] X.env := by rfl) (np : (backTo pos (starEach [b] X.env)).any (·.1) = false := by rfl)
    (nb : starEach [.Call (.Name "range" p) [a, b] [] pos] X.env = (false, eval (.Call (.Name "range" p) [a, b] [] pos) X.env) :: starEach [] X.env := by rfl) : DEx X E (.Call (.Name "list" p2) [.Call (.Name "range" p) [a, b] [] pos] [] pos2) (dLstRg2 o da db) := by
  obtain ⟨ta, p1, s1⟩ := ha
  obtain ⟨tb, p2, s2⟩ := hb
  refine ⟨_, pe_listRg hc hg hm (prg_2 hg2 hr p1 p2 na na2 np) nb, fun S0 sl M σ H Q QD ED k xl hd l => s1 S0 sl M σ H _ _ ED k xl hd fun d1 M1 x H1 m1 x1 r1 q1 => ?_⟩
  refine s2 S0 sl M1 σ H1 _ _ ED (k.ext m1 x1) (xl.ext x1) q1 fun d2 M2 y H2 m2 x2 r2 q2 => ?_
  obtain ⟨i, j, rfl, rfl, ok, q⟩ := q2
  cases r1
  cases r2
  exact ⟨i, j, rfl, rfl, ok, al_lst m2 (reps_rg i j) q (l.ext (x1.trans x2))⟩
end
end OD

/-! LPot: the pot of draws. -/
namespace Once
open PySem PySem.Spec L2 OD
theorem small1 (n : Nat) (h : n ≤ 1000) : n ≤ sizeLine := Nat.le_of_lt (small1000 h)
theorem at0 {x : D} {r : List D} : atI (x :: r) 0 = some x := atI_nat (j := 0) rfl
theorem ixN_nat {n j : Nat} (h : j < n) : ixN n (j : Int) = some j := by
  unfold ixN
  rw [if_pos (Int.natCast_nonneg j), if_pos (by omega), Int.toNat_natCast]
theorem ix0 {x : D} {r : List D} : ixN (x :: r).length 0 = some 0 := ixN_nat (j := 0) (by simp)
theorem seq0 {x : D} {r : List D} : seqIndex? 0 (x :: r).length = some 0 := (ixN_seq ix0).1
structure PotC where
  gs : List Int
  ss : List Int
  t : Int
  w : Int
def potM (p g s : Addr) (c : PotC) : Mem := [(g, .lst (c.gs.map .int)), (s, .lst (c.ss.map .int)), (p, .lst [.ref g, .ref s, .int c.t, .int c.w])]
def fd_law_draw : FD := fun ds M _ Q => ∃ (p g s : Addr) (c : PotC) (n : Int), ds = [.ref p, .int n] ∧ M = potM p g s c ∧ c.ss ≠ [] ∧ 0 < n ∧ n.natAbs.log2 < 9000 ∧
  ∀ (r : Int) (c' : PotC), 0 ≤ r → r < n → c'.ss ≠ [] → Q (.int r) (potM p g s c')
theorem len_law_draw : ∀ ds M ED QD, fd_law_draw ds M ED QD → ds.length = 2 := fun ds M ED QD ⟨p, g, s, c, n, e, _⟩ => by rw [e]; rfl
def td_law_draw : DS :=
  (dSeq (dAsg (dOp ixD (dVar 0) (dC (.int 2))) (dName 2))
  (dSeq (dSetIx (dOp (addD false) (dVar 2) (dC (.int 1))) (dVar 0) (dC (.int 2)))
  (dSeq (dIfS (dTest (dOp gtD (dCB lenD (dCons (dOp ixD (dVar 0) (dC (.int 0))) dNil)) (dC (.int 0)))) (dSeq (dAsg (dOp ixD (dOp ixD (dVar 0) (dC (.int 0))) (dC (.int 0))) (dName 4))
  (dSeq (dSetIx (dOp divD (dVar 4) (dVar 1)) (dOp ixD (dVar 0) (dC (.int 0))) (dC (.int 0)))
  (dSeq (dIfS (dTest (dOp ltD (dVar 4) (dVar 1))) (dDrop (dMth popAtF (dOp ixD (dVar 0) (dC (.int 0))) (dCons (dC (.int 0)) dNil))) dNext)
  (dRet false (dOp modD (dCB intD (dCons (dVar 4) dNil)) (dVar 1)))))) dNext)
  (dSeq (dAsg (dOp (addD false) (dOp (addD false) (dOp (mulD false) (dOp ixD (dOp ixD (dVar 0) (dC (.int 1))) (dOp modD (dCB intD (dCons (dVar 2) dNil)) (dCB lenD (dCons (dOp ixD (dVar 0) (dC (.int 1))) dNil)))) (dC (.int 7919))) (dOp (mulD false) (dC (.int 104729)) (dVar 2))) (dOp (mulD false) (dOp ixD (dVar 0) (dC (.int 3))) (dC (.int 31)))) (dName 3))
  (dSeq (dAsg (dOp modD (dCB intD (dCons (dOp (addD false) (dOp (mulD false) (dVar 3) (dC (.int 48271))) (dC (.int 11))) dNil)) (dC (.int 2147483647))) (dName 4))
  (dSeq (dAsg (dOp modD (dCB intD (dCons (dOp (mulD false) (dVar 4) (dOp (addD false) (dOp divD (dVar 4) (dC (.int 1009))) (dC (.int 69621)))) dNil)) (dC (.int 2147483629))) (dName 4))
  (dSeq (dAsg (dOp modD (dCB intD (dCons (dOp (addD false) (dOp (mulD false) (dVar 4) (dOp (addD false) (dOp divD (dVar 4) (dC (.int 2003))) (dC (.int 40692)))) (dVar 2)) dNil)) (dC (.int 2147483399))) (dName 4))
  (dRet false (dOp modD (dCB intD (dCons (dOp divD (dVar 4) (dC (.int 64))) dNil)) (dVar 1))))))))))
theorem rd_law_draw : ∀ ds M ED QD, fd_law_draw ds M ED QD → td_law_draw (outs M QD) (startD ["_law_pot_here", "_law_limit", "_law_turn", "_law_seed", "_law_number"] ds) M := by
  rintro ds M ED QD ⟨p, g, s, ⟨gs, ss, t, w⟩, n, rfl, rfl, hs, hn, hl, h⟩
  -- turn = pot[2]; pot[2] = turn + 1; if len(pot[0]) > 0
  refine ⟨_, rfl, 2, _, rfl, _, rfl, ?_⟩
  refine ⟨_, rfl, _, rfl, 2, _, rfl, 2, rfl, ?_⟩
  refine ⟨_, rfl, 2, _, rfl, _, rfl, 0, _, rfl, _, rfl, ite2 (fun e => ?_) (fun e => ?_)⟩
  · cases gs with
    | nil => exact absurd e (by simp)
    | cons x r =>
      -- number = pot[0][0]; pot[0][0] = number // limit; if number < limit: pot[0].pop(0); return int(number) % limit
      refine ⟨_, rfl, 2, _, rfl, _, rfl, 0, _, rfl, _, at0, ?_⟩
      refine ⟨_, rfl, _, rfl, ⟨hn, hl⟩, _, rfl, 2, _, rfl, _, rfl, 0, _, rfl, 0, ix0, ?_⟩
      have p0 : 0 ≤ x % n := Int.emod_nonneg _ (by omega)
      have p1 : x % n < n := Int.emod_lt_of_pos _ hn
      refine ⟨_, rfl, _, rfl, _, rfl, ite2 (fun e2 => ?_) (fun e2 => ?_)⟩
      · refine ⟨_, rfl, 2, _, rfl, _, rfl, ⟨0, _, rfl⟩, 0, _, rfl, by decide, by decide, 0, _, seq0, rfl, ?_⟩
        exact ⟨_, rfl, _, rfl, hn, .all rfl (h _ ⟨r, ss, t + 1, w⟩ p0 p1 hs)⟩
      · exact ⟨_, rfl, _, rfl, hn, .all rfl (h _ ⟨x / n :: r, ss, t + 1, w⟩ p0 p1 hs)⟩
  · -- seed = ..; number = .. (thrice); return ..
    have hl0 : 0 < (ss.length : Int) := by
      cases ss with
      | nil => exact absurd rfl hs
      | cons _ _ => simp
    have q0 : 0 ≤ t % (ss.length : Int) := Int.emod_nonneg _ (by omega)
    have q1 : t % (ss.length : Int) < ss.length := Int.emod_lt_of_pos _ hl0
    obtain ⟨j, hj⟩ : ∃ j : Nat, t % (ss.length : Int) = j := ⟨(t % (ss.length : Int)).toNat, by omega⟩
    have hjl : j < ss.length := by omega
    have hget : atI (ss.map D.int) (t % ((ss.map D.int).length : Int)) = some (D.int ss[j]) := by
      rw [List.length_map, hj]
      refine atI_nat ?_
      rw [List.getElem?_map, List.getElem?_eq_getElem hjl]
      rfl
    have md : ∀ i : Int, MulOk i 7919 ∧ MulOk 104729 i ∧ MulOk i 31 ∧ MulOk i 48271 := fun i =>
      ⟨.inl (.inr ⟨by decide, by decide⟩), .inl (.inl ⟨by decide, by decide⟩), .inl (.inr ⟨by decide, by decide⟩), .inl (.inr ⟨by decide, by decide⟩)⟩
    refine ⟨_, rfl, 2, _, rfl, _, rfl, _, rfl, _, rfl, 2, _, rfl, _, rfl, 1, _, rfl, by show 0 < (((ss.map D.int).length : Nat) : Int); rw [List.length_map]; exact hl0, 1, _, rfl, _, hget, (md _).1, _, rfl, (md _).2.1, _, rfl, 2, _, rfl, _, rfl, (md _).2.2.1, ?_⟩
    refine ⟨_, rfl, (md _).2.2.2, by decide, ?_⟩
    generalize h1 : (ss[j] * 7919 + 104729 * t + w * 31) * 48271 + 11 = n1
    have a0 : 0 ≤ n1 % 2147483647 := Int.emod_nonneg _ (by decide)
    have a1 : n1 % 2147483647 < 2147483647 := Int.emod_lt_of_pos _ (by decide)
    refine ⟨_, rfl, _, rfl, ⟨by decide, by decide⟩, .inl (.inl ⟨by show -(2 ^ 64) < n1 % 2147483647; omega, by show n1 % 2147483647 < 2 ^ 64; omega⟩), by decide, ?_⟩
    generalize h2 : n1 % 2147483647 * (n1 % 2147483647 / 1009 + 69621) = n2
    have b0 : 0 ≤ n2 % 2147483629 := Int.emod_nonneg _ (by decide)
    have b1 : n2 % 2147483629 < 2147483629 := Int.emod_lt_of_pos _ (by decide)
    refine ⟨_, rfl, _, rfl, ⟨by decide, by decide⟩, .inl (.inl ⟨by show -(2 ^ 64) < n2 % 2147483629; omega, by show n2 % 2147483629 < 2 ^ 64; omega⟩), _, rfl, by decide, ?_⟩
    refine ⟨_, rfl, ⟨by decide, by decide⟩, _, rfl, hn, ?_⟩
    exact .all rfl (h _ ⟨gs, ss, t + 1, w⟩ (Int.emod_nonneg _ (by omega)) (Int.emod_lt_of_pos _ hn) hs)
/-! the pot of a script -/
def fd_law_pot : FD := fun ds M _ Q => ∃ ns : List Int, ds = [.scr ns] ∧ M = [] ∧ ns.length ≤ 63 ∧ ∀ (p g s : Addr) (c : PotC), c.ss ≠ [] → Q (.ref p) (potM p g s c)
theorem len_law_pot : ∀ ds M ED QD, fd_law_pot ds M ED QD → ds.length = 1 := fun ds M ED QD ⟨ns, e, _⟩ => by rw [e]; rfl
def td_law_pot : DS :=
  (dSeq (dAsg (dLc false (diSeq (dSl false (dVar 0) dNoPart (dPart (dC (.int 63))))) [4] (dName 4) dYes (dCB intD (dCons (dVar 4) dNil))) (dName 1))
  (dSeq (dAsg (dLc true (diSeq (dVar 1)) [4] (dName 4) (dTest (dOp geD (dCB absD (dCons (dVar 4) dNil)) (dOp powD (dC (.int 10)) (dC (.int 18))))) (dCB absD (dCons (dVar 4) dNil))) (dName 2))
  (dSeq (dAsg (dOp (addD true) (dLc false (diSeq (dVar 1)) [4] (dName 4) (dTest (dOp ltD (dCB absD (dCons (dVar 4) dNil)) (dOp powD (dC (.int 10)) (dC (.int 18))))) (dOp modD (dCB intD (dCons (dVar 4) dNil)) (dC (.int 1000000007)))) (dLst false (dCons (dOp (addD false) (dCB lenD (dCons (dVar 1) dNil)) (dC (.int 1))) dNil))) (dName 3))
  (dRet false (dLst true (dCons (dVar 2) (dCons (dVar 3) (dCons (dC (.int 0)) (dCons (dOp modD (dCB intD (dCons (dCB sumD (dCons (dVar 3) dNil)) dNil)) (dC (.int 999983))) dNil)))))))))
/-- a comprehension over an immutable list of ints: of those that are wanted f -/
theorem lc_ints {o : Bool} {sl : Slots} {M : Mem} {ED : XD} {Q : DK} {da : DE} {i : Nat} {tt : DT} {te : DE} {ns : List Int} (p : Int → Bool) (f : Int → Int)
    (hd : ∀ RD : Itm → Mem → Prop, RD (itSeq (ns.map .int) fun _ => True) M → diSeq da sl M ED RD) (hz : ns.length ≤ 1000)
    (ht : ∀ (x : Int) (Q : Bool → Mem → Prop), Q (p x) M → tt ((wipeD sl [i]).set i (some (.int x))) M NoX Q)
    (he : ∀ (x : Int) (Q : DK), Q (.int (f x)) M → te ((wipeD sl [i]).set i (some (.int x))) M NoX Q)
    (hq : al o (.lst (((ns.filter p).map f).map .int)) M Q) : dLc o (diSeq da) [i] (dName i) tt te sl M ED Q := by
  refine hd _ ⟨fun j acc M' => M' = M ∧ acc = (((ns.take j).filter p).map f).map .int, ⟨rfl, rfl⟩, fun _ _ _ _ _ => trivial, fun j acc M' hj h => ?_, fun acc M' h => ?_⟩
  · obtain ⟨rfl, rfl⟩ := h
    have hj' : j < ns.length := by simpa [itSeq] using hj
    have e : (itSeq (ns.map D.int) fun _ => True).at_ j = .int ns[j] := by
      show ((ns.map D.int)[j]?).getD .non = _
      rw [List.getElem?_map, List.getElem?_eq_getElem hj']
      rfl
    have tk : ns.take (j + 1) = ns.take j ++ [ns[j]] := by rw [List.take_add_one, List.getElem?_eq_getElem hj']; rfl
    rw [e]
    refine ht _ _ ?_
    cases hp : p ns[j] with
    | true =>
      refine iteT (he _ _ ⟨?_, rfl, ?_⟩)
      · have h1 : ((ns.take j).filter p).length ≤ (ns.take j).length := List.length_filter_le _ _
        have h2 : (ns.take j).length ≤ ns.length := by rw [List.length_take]; omega
        rw [List.length_map, List.length_map]
        exact small1000 (by omega)
      · rw [tk, List.filter_append, List.map_append, List.map_append, List.filter_cons_of_pos hp]
        rfl
    | false =>
      refine iteF ⟨rfl, ?_⟩
      rw [tk, List.filter_append, List.filter_cons_of_neg (by rw [hp]; exact Bool.false_ne_true)]
      simp
  · obtain ⟨rfl, rfl⟩ := h
    have e : (itSeq (ns.map D.int) fun _ => True).n = ns.length := by show (ns.map D.int).length = _; rw [List.length_map]
    rw [e, List.take_length]
    exact hq
theorem al_f {n : N} {M : Mem} {Q : DK} (h : Q (n.toD 0) M) : al false n M Q := h
theorem st_lc {o : Bool} {sl : Slots} {M : Mem} {da : DE} {i t : Nat} {tt : DT} {te : DE} {ns : List Int} {rest : DS} {Dd : DEnds} (p : Int → Bool) (f : Int → Int)
    (hd : ∀ RD : Itm → Mem → Prop, RD (itSeq (ns.map .int) fun _ => True) M → diSeq da sl M (Dd.ex sl) RD) (hz : ns.length ≤ 1000)
    (ht : ∀ (x : Int) (Q : Bool → Mem → Prop), Q (p x) M → tt ((wipeD sl [i]).set i (some (.int x))) M NoX Q)
    (he : ∀ (x : Int) (Q : DK), Q (.int (f x)) M → te ((wipeD sl [i]).set i (some (.int x))) M NoX Q)
    (hq : al o (.lst (((ns.filter p).map f).map .int)) M fun d M1 => rest Dd (sl.set t (some d)) M1) : dSeq (dAsg (dLc o (diSeq da) [i] (dName i) tt te) (dName t)) rest Dd sl M :=
  lc_ints p f hd hz ht he hq
theorem rd_law_pot : ∀ ds M ED QD, fd_law_pot ds M ED QD → td_law_pot (outs M QD) (startD ["_law_script", "_law_cells", "_law_greats", "_law_smalls", "_law_item"] ds) M := by
  rintro ds M ED QD ⟨ns, rfl, rfl, hn, h⟩
  -- cells
  have hc : (cutL ns none (some 63)) = ns := by
    unfold cutL
    rw [HT.sIx_none, show HT.sIx ns.length ns.length (some 63) = min 63 ns.length from HT.sIx_nat _ _ 63]
    rw [List.drop_zero, List.take_of_length_le (by omega)]
  refine st_lc (ns := ns) (fun _ => true) id ?_ (by omega) ?_ ?_ ?_
  · intro RD hr
    refine ⟨_, rfl, _, rfl, ?_⟩
    show RD (itSeq ((cutL ns none (some 63)).map .int) _) _
    rw [hc]
    exact hr
  · exact fun x Q q => q
  · exact fun x Q q => ⟨_, rfl, q⟩
  have e1 : ((ns.filter fun _ => true).map id) = ns := by simp
  rw [e1]
  -- greats
  refine al_f ?_
  refine st_lc (ns := ns) (fun x => decide (10 ^ 18 ≤ (if x < 0 then -x else x))) (fun x => if x < 0 then -x else x) ?_ (by omega) ?_ ?_ ?_
  · exact fun RD hr => ⟨_, rfl, hr⟩
  · exact fun x Q q => ⟨_, rfl, ⟨by decide, by decide, by decide⟩, _, rfl, q⟩
  · exact fun x Q q => ⟨_, rfl, q⟩
  intro g hg
  -- smalls
  refine lc_ints (ns := ns) (fun x => decide ((if x < 0 then -x else x) < 10 ^ 18)) (fun x => x % 1000000007) ?_ (by omega) ?_ ?_ ?_
  · exact fun RD hr => ⟨_, rfl, hr⟩
  · exact fun x Q q => ⟨_, rfl, ⟨by decide, by decide, by decide⟩, _, rfl, q⟩
  · exact fun x Q q => ⟨_, rfl, by decide, q⟩
  have hz : ∀ l : List Int, (l.map D.int).length = l.length := fun l => List.length_map _
  generalize hA : ((ns.filter fun x => decide ((if x < 0 then -x else x) < 10 ^ 18)).map fun x => x % 1000000007) = A
  have hAl : A.length ≤ 63 := by
    rw [← hA, List.length_map]
    exact Nat.le_trans (List.length_filter_le _ _) hn
  refine ⟨_, rfl, small1 1 (by decide), ?_, ?_⟩
  · show (A.map D.int).length + 1 ≤ sizeLine
    rw [hz]
    exact small1 _ (by omega)
  intro s hs
  have hB : A.map D.int ++ [D.int (((ns.map D.int).length : Int) + 1)] = (A ++ [((ns.map D.int).length : Int) + 1]).map D.int := by rw [List.map_append]; rfl
  refine ⟨_, rfl, _, rfl, _, rfl, 1, _, rfl, _, hB, by decide, small1 4 (by decide), fun p hp => ?_⟩
  refine .all rfl ?_
  rw [hB]
  exact h p g s ⟨(ns.filter fun x => decide (10 ^ 18 ≤ (if x < 0 then -x else x))).map fun x => if x < 0 then -x else x, A ++ [((ns.map D.int).length : Int) + 1], 0, (A ++ [((ns.map D.int).length : Int) + 1]).sum % 999983⟩ (by simp)
end Once

/-! LUt: lists of ints as data; ranges; comprehensions. -/
namespace Once
open PySem PySem.Spec L2 OD
theorem vw_imp {M : Mem} {h : D} {P P' : D → Prop} (v : vw M h P) (f : ∀ d, P d → P' d) : vw M h P' := by
  unfold vw at *
  cases h with
  | ref p => obtain ⟨k, n, e, q⟩ := v; exact ⟨k, n, e, f _ q⟩
  | _ => exact f _ v
abbrev li (xs : List Int) : D := .lst (xs.map .int)
abbrev lli (hs : List (List Int)) : D := .lst (hs.map li)
theorem atI_i {xs : List Int} {i : Int} (j : Nat) (e : i = j) (h : j < xs.length) : atI (xs.map D.int) i = some (.int (xs.getD j 0)) := by
  subst e
  refine atI_nat ?_
  rw [List.getElem?_map, List.getD_eq_getElem?_getD, List.getElem?_eq_getElem h]
  rfl
theorem atI_l {hs : List (List Int)} {i : Int} (j : Nat) (e : i = j) (h : j < hs.length) : atI (hs.map li) i = some (li (hs.getD j [])) := by
  subst e
  refine atI_nat ?_
  rw [List.getElem?_map, List.getD_eq_getElem?_getD, List.getElem?_eq_getElem h]
  rfl
/-- a comprehension: one thing for each that is wanted -/
theorem lc_map {o : Bool} {sl : Slots} {M : Mem} {ED : XD} {Q : DK} {di : DI} {i : Nat} {tt : DT} {te : DE} (it : Itm) (p : Nat → Bool) (f : Nat → D)
    (hd : ∀ RD : Itm → Mem → Prop, RD it M → di sl M ED RD) (hg : it.gd M) (hz : it.n ≤ 10000)
    (ht : ∀ j, j < it.n → ∀ Q : Bool → Mem → Prop, Q (p j) M → tt ((wipeD sl [i]).set i (some (it.at_ j))) M NoX Q)
    (he : ∀ j, j < it.n → p j = true → ∀ Q : DK, Q (f j) M → te ((wipeD sl [i]).set i (some (it.at_ j))) M NoX Q)
    (hq : al o (.lst (((List.range it.n).filter p).map f)) M Q) : dLc o di [i] (dName i) tt te sl M ED Q := by
  refine hd _ ⟨fun j acc M' => M' = M ∧ acc = ((List.range j).filter p).map f, ⟨rfl, rfl⟩, fun _ _ _ _ h => by rw [h.1]; exact hg, fun j acc M' hj h => ?_, fun acc M' h => ?_⟩
  · obtain ⟨rfl, rfl⟩ := h
    refine ht j hj _ ?_
    cases hp : p j with
    | true =>
      refine iteT (he j hj hp _ ⟨?_, rfl, ?_⟩)
      · have h1 : ((List.range j).filter p).length ≤ (List.range j).length := List.length_filter_le _ _
        rw [List.length_range] at h1
        rw [List.length_map]
        exact Nat.lt_of_le_of_lt (by omega : _ ≤ 10000) (by decide)
      · rw [List.range_succ, List.filter_append, List.map_append, List.filter_cons_of_pos hp]
        rfl
    | false =>
      refine iteF ⟨rfl, ?_⟩
      rw [List.range_succ, List.filter_append, List.filter_cons_of_neg (by rw [hp]; exact Bool.false_ne_true)]
      simp
  · obtain ⟨rfl, rfl⟩ := h
    exact hq
theorem filter_all {α : Type} (l : List α) : (l.filter fun _ => true) = l := by simp
/-- a comprehension of ints over a range, with no condition -/
theorem lc_rng {sl : Slots} {M : Mem} {ED : XD} {Q : DK} {di : DI} {i : Nat} {te : DE} (lo c : Int) (n : Nat) (f : Nat → Int)
    (hd : ∀ RD : Itm → Mem → Prop, RD (itRange lo c n) M → di sl M ED RD) (hz : n ≤ 1000)
    (he : ∀ j, j < n → ∀ Q : DK, Q (.int (f j)) M → te ((wipeD sl [i]).set i (some (.int (lo + (j : Nat) * c)))) M NoX Q)
    (hq : Q (li ((List.range n).map f)) M) : dLc false di [i] (dName i) dYes te sl M ED Q := by
  refine lc_map (itRange lo c n) (fun _ => true) (fun j => .int (f j)) hd trivial (Nat.le_trans hz (by decide)) (fun j hj Q q => q) (fun j hj _ Q q => he j hj Q q) ?_
  rw [filter_all]
  show Q (.lst ((List.range n).map fun j => D.int (f j))) M
  have e : (List.range n).map (fun j => D.int (f j)) = ((List.range n).map f).map .int := by rw [List.map_map]; rfl
  rw [e]
  exact hq
/-- a loop over a range -/
theorem for_rng {di : DI} {i : Nat} {tb : DS} {Dd : DEnds} {sl : Slots} {M : Mem} (lo c : Int) (n : Nat) (W : Nat → Slots → Mem → Prop) (hd : ∀ RD : Itm → Mem → Prop, RD (itRange lo c n) M → di sl M (Dd.ex sl) RD) (w0 : W 0 sl M)
    (hs : ∀ j sl M, j < n → W j sl M → tb { Dd with nx := W (j + 1), ct := W (j + 1), bk := Dd.nx } (sl.set i (some (.int (lo + (j : Nat) * c)))) M)
    (hq : ∀ sl M, W n sl M → Dd.nx sl M) : dFor di (dName i) tb Dd sl M :=
  hd _ ⟨W, w0, fun _ _ _ _ _ => trivial, hs, hq⟩
theorem rg2 {i j : Int} (h : -(2 ^ 62) ≤ i := by omega) (h2 : i < 2 ^ 62 := by omega) (h3 : -(2 ^ 62) ≤ j := by omega) (h4 : j < 2 ^ 62 := by omega) : -(2 ^ 62) ≤ i ∧ i < 2 ^ 62 ∧ -(2 ^ 62) ≤ j ∧ j < 2 ^ 62 := ⟨h, h2, h3, h4⟩
theorem sum_range_succ (f : Nat → Int) (n : Nat) : ((List.range (n + 1)).map f).sum = ((List.range n).map f).sum + f n := by
  rw [List.range_succ, List.map_append, List.sum_append]
  simp
theorem mul_big {i j : Int} (h : i.natAbs.log2 < 100000) (h2 : j.natAbs.log2 < 100000) : MulOk i j := .inr (by unfold CMulW; omega)
end Once

/-! F1: programs as plain functions over values: what a slot holds, how that stands in the memory of OD. -/
namespace F
open PySem PySem.Spec L2 OD

/-- a choice that nothing works out -/
noncomputable def cif {α : Type} (p : Prop) (a b : α) : α := @ite α p (Classical.propDecidable p) a b
theorem cif_pos {α : Type} {p : Prop} {a b : α} (h : p) : cif p a b = a := if_pos h
theorem cif_neg {α : Type} {p : Prop} {a b : α} (h : ¬ p) : cif p a b = b := if_neg h
@[simp] theorem cif_true {α : Type} {a b : α} : cif True a b = a := if_pos trivial
@[simp] theorem cif_false {α : Type} {a b : α} : cif False a b = b := if_neg id
theorem cif_inv {α : Type} {p : Prop} {a z : α} (h : cif p (some a) none = some z) : p ∧ a = z := by
  by_cases hp : p
  · rw [cif_pos hp] at h; exact ⟨hp, Option.some.inj h⟩
  · rw [cif_neg hp] at h; cases h
/-- what a slot holds: data, or an owned object -/
inductive Sv where
  | im (d : D) | lst (xs : List D) | dic (kvs : List (Key × D)) | ins (C : Addr) (fs : List (Str × D)) | pot (c : Once.PotC) | lok (a : Nat) (kvs : List (Key × D)) | dct (kvs : List (List Key × D))
abbrev Sl := List (Option Sv)
inductive R (α : Type) where
  | ok (a : α) (s : Sl) | ex (c : Value) (f : Option (List (Str × D))) (s : Sl) | bad
inductive O where
  | nx (s : Sl) | rt (w : Sv) (s : Sl) | bk (s : Sl) | ct (s : Sl) | ex (c : Value) (f : Option (List (Str × D))) (s : Sl) | bad
def R.bind {α β : Type} (r : R α) (f : α → Sl → R β) : R β := match r with
  | .ok a s => f a s
  | .ex c g s => .ex c g s
  | .bad => .bad
def R.thn {α : Type} (r : R α) (f : α → Sl → O) : O := match r with
  | .ok a s => f a s
  | .ex c g s => .ex c g s
  | .bad => .bad
def O.then (o : O) (f : Sl → O) : O := match o with
  | .nx s => f s
  | o => o
@[simp] theorem ok_bind {α β : Type} (a : α) (s : Sl) (f : α → Sl → R β) : (R.ok a s).bind f = f a s := rfl
@[simp] theorem ex_bind {α β : Type} (c g) (s : Sl) (f : α → Sl → R β) : (R.ex c g s : R α).bind f = .ex c g s := rfl
@[simp] theorem ok_thn {α : Type} (a : α) (s : Sl) (f : α → Sl → O) : (R.ok a s).thn f = f a s := rfl
@[simp] theorem ex_thn {α : Type} (c g) (s : Sl) (f : α → Sl → O) : (R.ex c g s : R α).thn f = .ex c g s := rfl
@[simp] theorem nx_then (s : Sl) (f : Sl → O) : (O.nx s).then f = f s := rfl
@[simp] theorem rt_then (w : Sv) (s : Sl) (f : Sl → O) : (O.rt w s).then f = .rt w s := rfl
@[simp] theorem bk_then (s : Sl) (f : Sl → O) : (O.bk s).then f = .bk s := rfl
@[simp] theorem ct_then (s : Sl) (f : Sl → O) : (O.ct s).then f = .ct s := rfl
@[simp] theorem exo_then (c g) (s : Sl) (f : Sl → O) : (O.ex c g s).then f = .ex c g s := rfl

/-! ### what a slot holds, in the memory -/
/-- dicts that are walked, and which is which -/
structure Lk where
  fr : Mem
  tg : Nat → Option (Addr × N)
  wf : ∀ a e, tg a = some e → e ∈ fr
def lk0 : Lk := ⟨[], fun _ => none, fun _ _ h => nomatch h⟩
def Ent (lk : Lk) : Sv → D → Mem → Prop
  | .im d, d', E => d' = d ∧ E = []
  | .lst xs, d', E => ∃ p, d' = .ref p ∧ E = [(p, .lst xs)]
  | .dic xs, d', E => ∃ p, d' = .ref p ∧ E = [(p, .dic xs)]
  | .ins C fs, d', E => ∃ p dx, d' = .ref p ∧ E = [(p, .ins C dx fs)]
  | .pot c, d', E => ∃ p g s, d' = .ref p ∧ E = Once.potM p g s c ∧ (keys E).Nodup
  | .lok a xs, d', E => E = [] ∧ ∃ p od ws, d' = .ref p ∧ lk.tg a = some (p, N.lok od ws xs)
  | .dct xs, d', E => ∃ p, d' = .ref p ∧ E = [(p, .dct xs)]
/-- what is fixed while a def runs: how many arguments, what they own -/
structure Cz where
  np : Nat
  M0 : Mem
  ks : Nat → List Addr
  /-- dicts that are walked -/
  lk : Lk
/-- w, d: a value in hand -/
structure Rl (c : Cz) (fs : Sl) (sl : Slots) (M : Mem) (w : Sv) (d : D) (E : Nat → Mem) : Prop where
  nd : (keys M).Nodup
  len : fs.length = sl.length
  tmp : Ent c.lk w d (E 0)
  slt : ∀ i sv, fs[i]? = some (some sv) → ∃ d, sl[i]? = some (some d) ∧ Ent c.lk sv d (E (i + 1))
  sub : ∀ i e, e ∈ E i → e ∈ M
  ndE : ∀ i, (keys (E i)).Nodup
  dis : ∀ i j a, i ≠ j → a ∈ keys (E i) → a ∈ keys (E j) → False
  pin : ∀ i, i < c.np → E (i + 1) = [] ∨ keys (E (i + 1)) = c.ks i
  frs : ∀ i a, (i = 0 ∨ c.np < i) → a ∈ keys (E i) → a ∉ keys c.M0
  pre : Pre c.M0 M
  lks : ∀ e, e ∈ c.lk.fr → e ∈ M
  lkd : ∀ e, e ∈ c.lk.fr → ∀ i, e.1 ∉ keys (E i)
def RelW (c : Cz) (fs : Sl) (sl : Slots) (M : Mem) (w : Sv) (d : D) : Prop := ∃ E, Rl c fs sl M w d E
def Rel (c : Cz) (fs : Sl) (sl : Slots) (M : Mem) : Prop := RelW c fs sl M (.im .non) .non

theorem Ent.im_inv {lk : Lk} {d d' : D} {E : Mem} (h : Ent lk (.im d) d' E) : d' = d ∧ E = [] := h
theorem Rl.swap {c : Cz} {fs : Sl} {sl : Slots} {M : Mem} {w : Sv} {d : D} {E : Nat → Mem} (h : Rl c fs sl M w d E) (d' : D) : Rl c fs sl M (.im d') d' (fun i => if i = 0 then [] else E i) := by
  refine ⟨h.nd, h.len, ⟨rfl, rfl⟩, fun i sv e => ?_, fun i e he => ?_, fun i => ?_, fun i j a n ha hb => ?_, fun i hi => ?_, fun i a hi ha => ?_, h.pre, h.lks, fun e he i hi => ?_⟩
  · obtain ⟨d, h1, h2⟩ := h.slt i sv e
    exact ⟨d, h1, by rw [if_neg (Nat.succ_ne_zero i)]; exact h2⟩
  · split at he
    · cases he
    · exact h.sub i e he
  · split
    · exact List.nodup_nil
    · exact h.ndE i
  · split at ha
    · cases ha
    · split at hb
      · cases hb
      · exact h.dis i j a n ha hb
  · rw [if_neg (Nat.succ_ne_zero i)]; exact h.pin i hi
  · split at ha
    · cases ha
    · exact h.frs i a hi ha
  · split at hi
    · cases hi
    · exact h.lkd e he i hi
/-- the value in hand is let go, or another one taken that owns nothing -/
theorem RelW.im {c : Cz} {fs : Sl} {sl : Slots} {M : Mem} {w : Sv} {d : D} (h : RelW c fs sl M w d) (d' : D) : RelW c fs sl M (.im d') d' := by
  obtain ⟨E, h⟩ := h
  exact ⟨_, h.swap d'⟩
theorem RelW.rel {c : Cz} {fs : Sl} {sl : Slots} {M : Mem} {w : Sv} {d : D} (h : RelW c fs sl M w d) : Rel c fs sl M := h.im .non
theorem RelW.eq {c : Cz} {fs : Sl} {sl : Slots} {M : Mem} {d d' : D} (h : RelW c fs sl M (.im d) d') : d' = d := by
  obtain ⟨E, h⟩ := h
  exact h.tmp.1

/-! ### how functions stand for readings -/
abbrev FE := Sl → R Sv
abbrev FT := Sl → R Bool
abbrev FA := Sl → R (List D)
abbrev FS := Sl → O
/-- a thing that is looked at late -/
abbrev FO := Sl → R (Sl → Option D)
def PoE (c : Cz) (sl : Slots) (ED : XD) (Q : DK) : R Sv → Prop
  | .ok w fs => ∀ d M, RelW c fs sl M w d → Q d M
  | .ex cls f fs => ∀ M, Rel c fs sl M → ED cls f M
  | .bad => False
def SimE (fe : FE) (te : DE) : Prop := ∀ (c : Cz) (fs : Sl) (sl : Slots) (M : Mem) (ED : XD) (Q : DK), Rel c fs sl M → PoE c sl ED Q (fe fs) → te sl M ED Q
def PoB (c : Cz) (sl : Slots) (ED : XD) (Q : Bool → Mem → Prop) : R Bool → Prop
  | .ok b fs => ∀ M, Rel c fs sl M → Q b M
  | .ex cls f fs => ∀ M, Rel c fs sl M → ED cls f M
  | .bad => False
def SimT (fe : FT) (te : DT) : Prop := ∀ (c : Cz) (fs : Sl) (sl : Slots) (M : Mem) (ED : XD) (Q : Bool → Mem → Prop), Rel c fs sl M → PoB c sl ED Q (fe fs) → te sl M ED Q
def PoA (c : Cz) (sl : Slots) (ED : XD) (Q : List D → Mem → Prop) : R (List D) → Prop
  | .ok b fs => ∀ M, Rel c fs sl M → Q b M
  | .ex cls f fs => ∀ M, Rel c fs sl M → ED cls f M
  | .bad => False
def SimA (fe : FA) (te : DA) : Prop := ∀ (c : Cz) (fs : Sl) (sl : Slots) (M : Mem) (ED : XD) (Q : List D → Mem → Prop), Rel c fs sl M → PoA c sl ED Q (fe fs) → te sl M ED Q
def Late (c : Cz) (sl : Slots) (g : Sl → Option D) (x : D) : Prop := ∀ (fs : Sl) (M : Mem) (d : D) (P : D → Prop), Rel c fs sl M → g fs = some d → P d → vw M x P
def PoO (c : Cz) (sl : Slots) (ED : XD) (Q : DK) : R (Sl → Option D) → Prop
  | .ok g fs => ∀ x M, Rel c fs sl M → Late c sl g x → Q x M
  | .ex cls f fs => ∀ M, Rel c fs sl M → ED cls f M
  | .bad => False
def SimO (fo : FO) (te : DE) : Prop := ∀ (c : Cz) (fs : Sl) (sl : Slots) (M : Mem) (ED : XD) (Q : DK), Rel c fs sl M → PoO c sl ED Q (fo fs) → te sl M ED Q

/-! ### names, constants, what is looked at -/
def isRef : D → Bool
  | .ref _ => true
  | _ => false
@[simp] theorem isRef_ref (a) : isRef (.ref a) = true := rfl
@[simp] theorem isRef_non : isRef .non = false := rfl
@[simp] theorem isRef_bl (a) : isRef (.bl a) = false := rfl
@[simp] theorem isRef_int (a) : isRef (.int a) = false := rfl
@[simp] theorem isRef_str (a) : isRef (.str a) = false := rfl
@[simp] theorem isRef_ty (a) : isRef (.ty a) = false := rfl
@[simp] theorem isRef_scr (a) : isRef (.scr a) = false := rfl
@[simp] theorem isRef_tup (a) : isRef (.tup a) = false := rfl
@[simp] theorem isRef_lst (a) : isRef (.lst a) = false := rfl
@[simp] theorem isRef_dic (a) : isRef (.dic a) = false := rfl
@[simp] theorem isRef_obj (a b) : isRef (.obj a b) = false := rfl
@[simp] theorem isRef_cls (a) : isRef (.cls a) = false := rfl
theorem vw_im {M : Mem} {d : D} {P : D → Prop} (h : isRef d = false) (q : P d) : vw M d P := by
  cases d <;> first | exact q | cases h
@[simp] def fVar (i : Nat) (s : Sl) : R Sv := match s[i]? with
  | some (some (.im d)) => .ok (.im d) s
  | _ => .bad
@[simp] def fC (d : D) (s : Sl) : R Sv := .ok (.im d) s
@[simp] def look (i : Nat) (s : Sl) : Option D := match s[i]? with
  | some (some (.im d)) => if isRef d then none else some d
  | some (some (.lst xs)) => some (.lst xs)
  | some (some (.dic k)) => some (.dic k)
  | some (some (.ins C fs)) => some (.obj C fs)
  | some (some (.lok _ k)) => some (.dic k)
  | _ => none
@[simp] def oV (i : Nat) (s : Sl) : R (Sl → Option D) := match s[i]? with
  | some (some _) => .ok (look i) s
  | _ => .bad
@[simp] def oIm (d : D) (_ : Sl) : Option D := if isRef d then none else some d
@[simp] def imK {α : Type} (w : Sv) (f : D → R α) : R α := match w with
  | .im d => f d
  | _ => .bad
@[simp] def oE (fe : FE) (s : Sl) : R (Sl → Option D) := (fe s).bind fun w s => imK w fun d => .ok (oIm d) s
@[simp] def opt {α : Type} (o : Option α) (s : Sl) : R α := match o with
  | some a => .ok a s
  | none => .bad
@[simp] def optI (o : Option D) (s : Sl) : R Sv := match o with
  | some a => .ok (.im a) s
  | none => .bad
theorem look_vw {c : Cz} {fs : Sl} {sl : Slots} {M : Mem} {i : Nat} {d x : D} {P : D → Prop} (r : Rel c fs sl M) (h : look i fs = some d) (hx : sl[i]? = some (some x)) (q : P d) : vw M x P := by
  obtain ⟨E, r⟩ := r
  unfold look at h
  split at h
  · rename_i d' e
    obtain ⟨y, h1, h2⟩ := r.slt i _ e
    rw [hx] at h1; cases h1
    cases h2.1
    split at h
    · cases h
    · rename_i nr
      cases h
      exact vw_im (by simpa using nr) q
  · rename_i xs e
    obtain ⟨y, h1, p, rfl, h2⟩ := r.slt i _ e
    rw [hx] at h1; cases h1
    cases h
    obtain ⟨k, hk⟩ := List.getElem?_of_mem (r.sub (i + 1) (p, .lst xs) (by rw [h2]; simp))
    exact ⟨k, _, hk, q⟩
  · rename_i xs e
    obtain ⟨y, h1, p, rfl, h2⟩ := r.slt i _ e
    rw [hx] at h1; cases h1
    cases h
    obtain ⟨k, hk⟩ := List.getElem?_of_mem (r.sub (i + 1) (p, .dic xs) (by rw [h2]; simp))
    exact ⟨k, _, hk, q⟩
  · rename_i C xs e
    obtain ⟨y, h1, p, dx, rfl, h2⟩ := r.slt i _ e
    rw [hx] at h1; cases h1
    cases h
    obtain ⟨k, hk⟩ := List.getElem?_of_mem (r.sub (i + 1) (p, .ins C dx xs) (by rw [h2]; simp))
    exact ⟨k, _, hk, q⟩
  · rename_i a xs e
    obtain ⟨y, h1, h3, p, od, ws, rfl, h2⟩ := r.slt i _ e
    rw [hx] at h1; cases h1
    cases h
    obtain ⟨k, hk⟩ := List.getElem?_of_mem (r.lks _ (c.lk.wf _ _ h2))
    exact ⟨k, _, hk, q⟩
  · cases h
section
variable {fa fb fc : FE} {oa ob oc : FO} {da db dc : DE} {ta tb : FT} {ua ub : DT} {as : FA} {dr : DA}
theorem s_var (i : Nat) : SimE (fVar i) (dVar i) := by
  intro c fs sl M ED Q r h
  obtain ⟨E, r⟩ := r
  unfold fVar at h
  split at h
  · rename_i d e
    obtain ⟨y, h1, h2⟩ := r.slt i _ e
    cases h2.1
    exact ⟨_, h1, h _ M ⟨_, r.swap _⟩⟩
  · exact h.elim
theorem s_c (d : D) : SimE (fC d) (dC d) := fun c fs sl M ED Q r h => h d M (r.im d)
theorem o_v (i : Nat) : SimO (oV i) (dVar i) := by
  intro c fs sl M ED Q r h
  unfold oV at h
  split at h
  · rename_i sv e
    obtain ⟨E, r'⟩ := r
    obtain ⟨y, h1, h2⟩ := r'.slt i _ e
    exact ⟨y, h1, h y M ⟨E, r'⟩ fun fs2 M2 d P r2 g q => look_vw r2 g h1 q⟩
  · exact h.elim
theorem o_e (h : SimE fa da) : SimO (oE fa) da := by
  intro c fs sl M ED Q r q
  refine h c fs sl M ED Q r ?_
  unfold oE at q
  cases e : fa fs with
  | ok w fs' =>
    rw [e] at q
    cases w with
    | im d =>
      intro d' M' rw'
      cases rw'.eq
      refine q _ M' rw'.rel fun fs2 M2 d2 P r2 g p => ?_
      unfold oIm at g
      split at g
      · cases g
      · rename_i nr
        cases g
        exact vw_im (by simpa using nr) p
    | _ => exact q.elim
  | ex cl f fs' => rw [e] at q; exact q
  | bad => rw [e] at q; exact q.elim
/-- an operator by values -/
def OpF (rd : D → D → Mem → DK → Prop) (f : D → D → Option D) : Prop := ∀ x y z M Q, f x y = some z → Q z M → rd x y M Q
@[simp] def fOp (f : D → D → Option D) (a b : FO) (s : Sl) : R Sv := (a s).bind fun g s => (b s).bind fun h s => match g s, h s with
  | some x, some y => optI (f x y) s
  | _, _ => .bad
theorem s_op {rd : D → D → Mem → DK → Prop} {f : D → D → Option D} (hf : OpF rd f) (ha : SimO oa da) (hb : SimO ob db) : SimE (fOp f oa ob) (dOp rd da db) := by
  intro c fs sl M ED Q r q
  refine ha c fs sl M ED _ r ?_
  unfold fOp at q
  cases e : oa fs with
  | ok g fs1 =>
    rw [e] at q
    intro x M1 r1 l1
    refine hb c fs1 sl M1 ED _ r1 ?_
    rw [ok_bind] at q
    cases e2 : ob fs1 with
    | ok h fs2 =>
      rw [e2, ok_bind] at q
      intro y M2 r2 l2
      split at q
      · rename_i x' y' gx hy
        refine l1 fs2 M2 x' _ r2 gx (l2 fs2 M2 y' _ r2 hy ?_)
        cases ef : f x' y' with
        | some z => rw [ef] at q; exact hf _ _ _ _ _ ef (q z M2 (r2.im z))
        | none => rw [ef] at q; exact q.elim
      · exact q.elim
    | ex cl f' fs' => rw [e2] at q; exact q
    | bad => rw [e2] at q; exact q.elim
  | ex cl f' fs' => rw [e] at q; exact q
  | bad => rw [e] at q; exact q.elim
end
end F

/-! F2: operators, tests, displays, built-in calls, fields. -/
namespace F
open PySem PySem.Spec L2 OD
section
variable {fa fb fc : FE} {oa ob oc : FO} {da db dc : DE} {ta tb : FT} {ua ub : DT} {as : FA} {dr : DA}
def UnF (rd : D → Mem → DK → Prop) (f : D → Option D) : Prop := ∀ x z M Q, f x = some z → Q z M → rd x M Q
@[simp] def fUn (f : D → Option D) (a : FO) (s : Sl) : R Sv := (a s).bind fun g s => match g s with
  | some x => optI (f x) s
  | none => .bad
theorem s_un {rd : D → Mem → DK → Prop} {f : D → Option D} (hf : UnF rd f) (ha : SimO oa da) : SimE (fUn f oa) (dUn rd da) := by
  intro c fs sl M ED Q r q
  refine ha c fs sl M ED _ r ?_
  unfold fUn at q
  cases e : oa fs with
  | ok g fs1 =>
    rw [e, ok_bind] at q
    intro x M1 r1 l1
    split at q
    · rename_i x' gx
      refine l1 fs1 M1 x' _ r1 gx ?_
      cases ef : f x' with
      | some z => rw [ef] at q; exact hf _ _ _ _ ef (q z M1 (r1.im z))
      | none => rw [ef] at q; exact q.elim
    · exact q.elim
  | ex cl f' fs' => rw [e] at q; exact q
  | bad => rw [e] at q; exact q.elim
@[simp] def fChain (f f' : D → D → Option D) (a b c : FO) (s : Sl) : R Sv := (a s).bind fun g s => (b s).bind fun h s => match g s, h s with
  | some x, some y => match f x y with
    | some (.bl true) => (c s).bind fun k s => match h s, k s with
      | some y, some z => optI (f' y z) s
      | _, _ => .bad
    | some (.bl false) => .ok (.im (.bl false)) s
    | _ => .bad
  | _, _ => .bad
/-! ### and, or, not, by values and as tests -/
@[simp] def boK {α : Type} (w : Sv) (f : Bool → R α) : R α := match w with
  | .im (.bl b) => f b
  | _ => .bad
@[simp] def fAndV (a b : FE) (s : Sl) : R Sv := (a s).bind fun w s => boK w fun c => if c = true then b s else .ok (.im (.bl false)) s
@[simp] def fOrV (a b : FE) (s : Sl) : R Sv := (a s).bind fun w s => boK w fun c => if c = true then .ok (.im (.bl true)) s else b s
@[simp] def fNotV (a : FE) (s : Sl) : R Sv := (a s).bind fun w s => boK w fun c => .ok (.im (.bl (!c))) s
@[simp] def fTest (a : FE) (s : Sl) : R Bool := (a s).bind fun w s => boK w fun c => .ok c s
@[simp] def fAnd (a b : FT) (s : Sl) : R Bool := (a s).bind fun c s => if c = true then b s else .ok false s
@[simp] def fOr (a b : FT) (s : Sl) : R Bool := (a s).bind fun c s => if c = true then .ok true s else b s
@[simp] def fNot (a : FT) (s : Sl) : R Bool := (a s).bind fun c s => .ok (!c) s
@[simp] def fIf (t : FT) (a b : FE) (s : Sl) : R Sv := (t s).bind fun c s => if c = true then a s else b s
theorem boK_inv {α : Type} {w : Sv} {f : Bool → R α} (h : boK w f ≠ .bad) : ∃ b, w = .im (.bl b) ∧ boK w f = f b := by
  unfold boK at h ⊢
  split at h
  · rename_i b; exact ⟨b, rfl, rfl⟩
  · exact absurd rfl h
/-- what a value is and what is wanted, in one step -/
theorem poE_cases {c : Cz} {sl : Slots} {ED : XD} {r : R Sv} {f : Sv → Sl → R Sv} {Q : DK} (q : PoE c sl ED Q (r.bind f)) {Q' : DK} (h : ∀ w fs, r = .ok w fs → PoE c sl ED Q (f w fs) → ∀ d M, RelW c fs sl M w d → Q' d M) : PoE c sl ED Q' r := by
  cases r with
  | ok w fs => exact h w fs rfl q
  | ex cl g fs => exact q
  | bad => exact q.elim
theorem poE_casesB {c : Cz} {sl : Slots} {ED : XD} {r : R Sv} {f : Sv → Sl → R Bool} {Q : Bool → Mem → Prop} (q : PoB c sl ED Q (r.bind f)) {Q' : DK} (h : ∀ w fs, r = .ok w fs → PoB c sl ED Q (f w fs) → ∀ d M, RelW c fs sl M w d → Q' d M) : PoE c sl ED Q' r := by
  cases r with
  | ok w fs => exact h w fs rfl q
  | ex cl g fs => exact q
  | bad => exact q.elim
theorem poB_casesB {c : Cz} {sl : Slots} {ED : XD} {r : R Bool} {f : Bool → Sl → R Bool} {Q : Bool → Mem → Prop} (q : PoB c sl ED Q (r.bind f)) {Q' : Bool → Mem → Prop} (h : ∀ w fs, r = .ok w fs → PoB c sl ED Q (f w fs) → ∀ M, Rel c fs sl M → Q' w M) : PoB c sl ED Q' r := by
  cases r with
  | ok w fs => exact h w fs rfl q
  | ex cl g fs => exact q
  | bad => exact q.elim
theorem poB_cases {c : Cz} {sl : Slots} {ED : XD} {r : R Bool} {f : Bool → Sl → R Sv} {Q : DK} (q : PoE c sl ED Q (r.bind f)) {Q' : Bool → Mem → Prop} (h : ∀ w fs, r = .ok w fs → PoE c sl ED Q (f w fs) → ∀ M, Rel c fs sl M → Q' w M) : PoB c sl ED Q' r := by
  cases r with
  | ok w fs => exact h w fs rfl q
  | ex cl g fs => exact q
  | bad => exact q.elim
theorem s_andV (ha : SimE fa da) (hb : SimE fb db) : SimE (fAndV fa fb) (dAndV da db) := by
  intro c fs sl M ED Q r q
  refine ha c fs sl M ED _ r (poE_cases q fun w fs1 e q d M1 rw => ?_)
  unfold boK at q
  split at q
  · rename_i b
    cases rw.eq
    refine ⟨b, rfl, ?_⟩
    cases b with
    | true => rw [if_pos rfl]; exact hb c fs1 sl M1 ED Q rw.rel q
    | false => rw [if_neg Bool.false_ne_true]; exact q _ M1 (rw.im _)
  · exact q.elim
theorem s_orV (ha : SimE fa da) (hb : SimE fb db) : SimE (fOrV fa fb) (dOrV da db) := by
  intro c fs sl M ED Q r q
  refine ha c fs sl M ED _ r (poE_cases q fun w fs1 e q d M1 rw => ?_)
  unfold boK at q
  split at q
  · rename_i b
    cases rw.eq
    refine ⟨b, rfl, ?_⟩
    cases b with
    | true => rw [if_pos rfl]; exact q _ M1 (rw.im _)
    | false => rw [if_neg Bool.false_ne_true]; exact hb c fs1 sl M1 ED Q rw.rel q
  · exact q.elim
theorem s_notV (ha : SimE fa da) : SimE (fNotV fa) (dNotV da) := by
  intro c fs sl M ED Q r q
  refine ha c fs sl M ED _ r (poE_cases q fun w fs1 e q d M1 rw => ?_)
  unfold boK at q
  split at q
  · rename_i b
    cases rw.eq
    exact ⟨b, rfl, q _ M1 (rw.im _)⟩
  · exact q.elim
theorem t_test (ha : SimE fa da) : SimT (fTest fa) (dTest da) := by
  intro c fs sl M ED Q r q
  refine ha c fs sl M ED _ r (poE_casesB q fun w fs1 e q d M1 rw => ?_)
  unfold boK at q
  split at q
  · rename_i b
    cases rw.eq
    exact ⟨b, rfl, q M1 rw.rel⟩
  · exact q.elim
/-- the truth of what is looked at -/
@[simp] def truF : D → Option Bool
  | .bl b => some b
  | _ => none
@[simp] def fTru (a : FO) (s : Sl) : R Bool := (a s).bind fun g s => match g s with
  | some x => opt (truF x) s
  | none => .bad
theorem t_tru (h0 : ∀ b M Q, Q b M → truD (.bl b) M Q) (ha : SimO oa da) : SimT (fTru oa) (dTru da) := by
  intro c fs sl M ED Q r q
  refine ha c fs sl M ED _ r ?_
  unfold fTru at q
  cases e : oa fs with
  | ok g fs1 =>
    rw [e, ok_bind] at q
    intro x M1 r1 l1
    split at q
    · rename_i x' gx
      refine l1 fs1 M1 x' _ r1 gx ?_
      cases x' with
      | bl b => exact h0 b M1 Q (q M1 r1)
      | _ => exact q.elim
    · exact q.elim
  | ex cl f' fs' => rw [e] at q; exact q
  | bad => rw [e] at q; exact q.elim
theorem t_and (ha : SimT ta ua) (hb : SimT tb ub) : SimT (fAnd ta tb) (dAnd ua ub) := by
  intro c fs sl M ED Q r q
  refine ha c fs sl M ED _ r (poB_casesB q fun b fs1 e q M1 r1 => ?_)
  cases b with
  | true => rw [if_pos rfl] at q ⊢; exact hb c fs1 sl M1 ED Q r1 q
  | false => rw [if_neg Bool.false_ne_true] at q ⊢; exact q M1 r1
theorem t_or (ha : SimT ta ua) (hb : SimT tb ub) : SimT (fOr ta tb) (dOr ua ub) := by
  intro c fs sl M ED Q r q
  refine ha c fs sl M ED _ r (poB_casesB q fun b fs1 e q M1 r1 => ?_)
  cases b with
  | true => rw [if_pos rfl] at q ⊢; exact q M1 r1
  | false => rw [if_neg Bool.false_ne_true] at q ⊢; exact hb c fs1 sl M1 ED Q r1 q
theorem t_not (ha : SimT ta ua) : SimT (fNot ta) (dNot ua) := by
  intro c fs sl M ED Q r q
  exact ha c fs sl M ED _ r (poB_casesB q fun b fs1 e q M1 r1 => q M1 r1)
theorem s_if (ht : SimT ta ua) (ha : SimE fa da) (hb : SimE fb db) : SimE (fIf ta fa fb) (dIf ua da db) := by
  intro c fs sl M ED Q r q
  refine ht c fs sl M ED _ r (poB_cases q fun b fs1 e q M1 r1 => ?_)
  cases b with
  | true => rw [if_pos rfl] at q ⊢; exact ha c fs1 sl M1 ED Q r1 q
  | false => rw [if_neg Bool.false_ne_true] at q ⊢; exact hb c fs1 sl M1 ED Q r1 q
/-! ### rows of data -/
@[simp] def imA {α : Type} (w : Sv) (f : D → R α) : R α := imK w f
@[simp] def fNil (s : Sl) : R (List D) := .ok [] s
@[simp] def fCons (a : FE) (r : FA) (s : Sl) : R (List D) := (a s).bind fun w s => imK w fun d => (r s).bind fun ds s => .ok (d :: ds) s
theorem a_nil : SimA fNil dNil := fun c fs sl M ED Q r q => q M r
theorem a_cons (ha : SimE fa da) (hr : SimA as dr) : SimA (fCons fa as) (dCons da dr) := by
  intro c fs sl M ED Q r q
  refine ha c fs sl M ED _ r ?_
  unfold fCons at q
  cases e : fa fs with
  | ok w fs1 =>
    rw [e, ok_bind] at q
    cases w with
    | im d =>
      intro d' M1 r1
      cases r1.eq
      refine hr c fs1 sl M1 ED _ r1.rel ?_
      cases e2 : as fs1 with
      | ok ds fs2 => rw [imK, e2] at q; exact q
      | ex cl f' fs' => rw [imK, e2] at q; exact q
      | bad => rw [imK, e2] at q; exact q.elim
    | _ => exact q.elim
  | ex cl f' fs' => rw [e] at q; exact q
  | bad => rw [e] at q; exact q.elim
theorem poA_cases {c : Cz} {sl : Slots} {ED : XD} {r : R (List D)} {f : List D → Sl → R Sv} {Q : DK} (q : PoE c sl ED Q (r.bind f)) {Q' : List D → Mem → Prop} (h : ∀ w fs, r = .ok w fs → PoE c sl ED Q (f w fs) → ∀ M, Rel c fs sl M → Q' w M) : PoA c sl ED Q' r := by
  cases r with
  | ok w fs => exact h w fs rfl q
  | ex cl g fs => exact q
  | bad => exact q.elim
@[simp] noncomputable def fTup (r : FA) (s : Sl) : R Sv := (r s).bind fun ds s => cif (ds.length ≤ 16777216) (.ok (.im (.tup ds)) s) (.bad)
@[simp] noncomputable def fLst (r : FA) (s : Sl) : R Sv := (r s).bind fun ds s => cif (ds.length ≤ 16777216) (.ok (.im (.lst ds)) s) (.bad)
@[simp] noncomputable def fLstN (r : FA) (s : Sl) : R Sv := (r s).bind fun ds s => cif (ds.length ≤ 16777216) (.ok (.lst ds) s) (.bad)
@[simp] def fDic0 (s : Sl) : R Sv := .ok (.im (.dic [])) s
@[simp] def fDicN (s : Sl) : R Sv := .ok (.dic []) s
theorem s_tup (hr : SimA as dr) : SimE (fTup as) (dTup dr) := by
  intro c fs sl M ED Q r q
  refine hr c fs sl M ED _ r (poA_cases q fun ds fs1 e q M1 r1 => ?_)
  by_cases hz : ds.length ≤ 16777216
  · rw [cif_pos hz] at q; exact ⟨hz, q _ M1 (r1.im _)⟩
  · rw [cif_neg hz] at q; exact q.elim
theorem s_lst (hr : SimA as dr) : SimE (fLst as) (dLst false dr) := by
  intro c fs sl M ED Q r q
  refine hr c fs sl M ED _ r (poA_cases q fun ds fs1 e q M1 r1 => ?_)
  by_cases hz : ds.length ≤ 16777216
  · rw [cif_pos hz] at q; exact ⟨hz, q _ M1 (r1.im _)⟩
  · rw [cif_neg hz] at q; exact q.elim
theorem pre_keys {M0 M : Mem} (h : Pre M0 M) : ∀ a, a ∈ keys M0 → a ∈ keys M := by
  intro a ha
  unfold Pre at h
  rw [← h] at ha
  obtain ⟨e, he, rfl⟩ := List.mem_map.mp ha
  exact List.mem_map.mpr ⟨e, List.mem_of_mem_take he, rfl⟩
theorem pre_append {M0 M E : Mem} (h : Pre M0 M) : Pre M0 (M ++ E) := by
  unfold Pre at *
  have hl : M0.length ≤ M.length := by
    have h1 := congrArg List.length h
    unfold keys at h1
    rw [List.length_map, List.length_map, List.length_take] at h1
    omega
  rw [List.take_append_of_le_length hl]
  exact h
/-- a new owned object in hand -/
def svN : N → Sv
  | .lst xs => .lst xs
  | .dic xs => .dic xs
  | .lok _ _ xs => .dic xs
  | .ins C _ fs => .ins C fs
  | .dct xs => .dct xs
def okN : N → Bool
  | .lok _ _ _ => false
  | _ => true
theorem ent_new {n : N} (h : okN n = true) (p : Addr) {lk : Lk} : Ent lk (svN n) (.ref p) [(p, n)] := by
  cases n with
  | lst xs => exact ⟨p, rfl, rfl⟩
  | dic xs => exact ⟨p, rfl, rfl⟩
  | lok _ _ _ => cases h
  | ins C dx fs => exact ⟨p, dx, rfl, rfl⟩
  | dct xs => exact ⟨p, rfl, rfl⟩
theorem Rel.add {c : Cz} {fs : Sl} {sl : Slots} {M : Mem} (r : Rel c fs sl M) {n : N} (hn : okN n = true) {p : Addr} (hp : p ∉ keys M) : RelW c fs sl (M ++ [(p, n)]) (svN n) (.ref p) := by
  obtain ⟨E, r⟩ := r
  have nk : ∀ i a, a ∈ keys (E i) → a ≠ p := fun i a ha z => by
    obtain ⟨e, he, rfl⟩ := List.mem_map.mp ha
    exact hp (z ▸ List.mem_map.mpr ⟨e, r.sub i e he, rfl⟩)
  have kp : keys [(p, n)] = [p] := rfl
  refine ⟨fun i => if i = 0 then [(p, n)] else E i, ?_, r.len, ent_new hn p, fun i sv e => ?_, fun i e he => ?_, fun i => ?_, fun i j a hij ha hb => ?_, fun i hi => ?_, fun i a hi ha => ?_, pre_append r.pre, fun e he => List.mem_append_left _ (r.lks e he), fun e he i hi => ?_⟩
  · rw [keys_append, kp]
    exact List.nodup_append.mpr ⟨r.nd, by simp, fun a ha b hb z => by simp at hb; exact hp (by rw [← hb, ← z]; exact ha)⟩
  · obtain ⟨d, h1, h2⟩ := r.slt i sv e
    exact ⟨d, h1, by rw [if_neg (Nat.succ_ne_zero i)]; exact h2⟩
  · by_cases z : i = 0
    · rw [if_pos z] at he; simp at he; rw [he]; simp
    · rw [if_neg z] at he; exact List.mem_append_left _ (r.sub i e he)
  · by_cases z : i = 0
    · rw [if_pos z, kp]; simp
    · rw [if_neg z]; exact r.ndE i
  · by_cases z : i = 0
    · rw [if_pos z, kp] at ha
      simp at ha
      rw [if_neg fun w => hij (by rw [z, w])] at hb
      exact nk j a hb ha
    · rw [if_neg z] at ha
      by_cases z2 : j = 0
      · rw [if_pos z2, kp] at hb
        simp at hb
        exact nk i a ha hb
      · rw [if_neg z2] at hb
        exact r.dis i j a hij ha hb
  · rw [if_neg (Nat.succ_ne_zero i)]; exact r.pin i hi
  · by_cases z : i = 0
    · rw [if_pos z, kp] at ha
      simp at ha
      rw [ha]
      exact fun w => hp (pre_keys r.pre p w)
    · rw [if_neg z] at ha; exact r.frs i a hi ha
  · by_cases z : i = 0
    · rw [if_pos z, kp] at hi
      simp at hi
      exact hp (hi ▸ List.mem_map.mpr ⟨e, r.lks e he, rfl⟩)
    · rw [if_neg z] at hi; exact r.lkd e he i hi
theorem al_new {c : Cz} {fs : Sl} {sl : Slots} {M : Mem} {n : N} {Q : DK} (hn : okN n = true) (r : Rel c fs sl M) (q : ∀ d M, RelW c fs sl M (svN n) d → Q d M) : al true n M Q := fun p hp => q _ _ (r.add hn hp)
theorem s_lstN (hr : SimA as dr) : SimE (fLstN as) (dLst true dr) := by
  intro c fs sl M ED Q r q
  refine hr c fs sl M ED _ r (poA_cases q fun ds fs1 e q M1 r1 => ?_)
  by_cases hz : ds.length ≤ 16777216
  · rw [cif_pos hz] at q; exact ⟨hz, al_new (n := .lst ds) rfl r1 q⟩
  · rw [cif_neg hz] at q; exact q.elim
theorem s_dic0 : SimE fDic0 (dDic0 false) := fun c fs sl M ED Q r q => q _ M (r.im _)
theorem s_dicN : SimE fDicN (dDic0 true) := fun c fs sl M ED Q r q => al_new (n := .dic []) rfl r q
/-! ### rows of things looked at -/
abbrev FL := Sl → R (List (Sl → Option D))
def PoL (c : Cz) (sl : Slots) (ED : XD) (Q : List D → Mem → Prop) : R (List (Sl → Option D)) → Prop
  | .ok gs fs => ∀ xs M, Rel c fs sl M → (∀ (fs : Sl) (M : Mem) (ws : List D) (P : List D → Prop), Rel c fs sl M → gs.mapM (fun g => g fs) = some ws → P ws → vws M xs P) → Q xs M
  | .ex cls f fs => ∀ M, Rel c fs sl M → ED cls f M
  | .bad => False
def SimL (fl : FL) (te : DA) : Prop := ∀ (c : Cz) (fs : Sl) (sl : Slots) (M : Mem) (ED : XD) (Q : List D → Mem → Prop), Rel c fs sl M → PoL c sl ED Q (fl fs) → te sl M ED Q
@[simp] def lNil (s : Sl) : R (List (Sl → Option D)) := .ok [] s
@[simp] def lCons (a : FO) (r : FL) (s : Sl) : R (List (Sl → Option D)) := (a s).bind fun g s => (r s).bind fun gs s => .ok (g :: gs) s
theorem l_nil : SimL lNil dNil := fun c fs sl M ED Q r q => q [] M r fun fs M ws P r e p => by
  cases e; exact p
theorem l_cons {fl : FL} (ha : SimO oa da) (hr : SimL fl dr) : SimL (lCons oa fl) (dCons da dr) := by
  intro c fs sl M ED Q r q
  refine ha c fs sl M ED _ r ?_
  unfold lCons at q
  cases e : oa fs with
  | ok g fs1 =>
    rw [e, ok_bind] at q
    intro x M1 r1 l1
    refine hr c fs1 sl M1 ED _ r1 ?_
    cases e2 : fl fs1 with
    | ok gs fs2 =>
      rw [e2, ok_bind] at q
      intro xs M2 r2 l2
      refine q (x :: xs) M2 r2 fun fs3 M3 ws P r3 e3 p => ?_
      rw [List.mapM_cons] at e3
      cases eg : g fs3 with
      | none => rw [eg] at e3; cases e3
      | some w =>
        rw [eg] at e3
        cases em : gs.mapM (fun g => g fs3) with
        | none => simp [em] at e3
        | some ws' =>
          simp [em] at e3
          subst e3
          exact l1 fs3 M3 w _ r3 eg (l2 fs3 M3 ws' _ r3 em p)
    | ex cl f' fs' => rw [e2] at q; exact q
    | bad => rw [e2] at q; exact q.elim
  | ex cl f' fs' => rw [e] at q; exact q
  | bad => rw [e] at q; exact q.elim
/-- a built-in call -/
def RcF (rd : RCD) (f : List D → Option D) : Prop := ∀ ws z M Q, f ws = some z → Q z M → rd ws M Q
def RcN (rd : RCD) (f : List D → Option N) : Prop := ∀ ws n M Q, f ws = some n → al true n M Q → okN n = true ∧ rd ws M Q
@[simp] def late (gs : List (Sl → Option D)) (s : Sl) : Option (List D) := gs.mapM fun g => g s
@[simp] def fCB (f : List D → Option D) (r : FL) (s : Sl) : R Sv := (r s).bind fun gs s => match late gs s with
  | some ws => optI (f ws) s
  | none => .bad
@[simp] def optN (o : Option N) (s : Sl) : R Sv := match o with
  | some n => .ok (svN n) s
  | none => .bad
@[simp] def fCBN (f : List D → Option N) (r : FL) (s : Sl) : R Sv := (r s).bind fun gs s => match late gs s with
  | some ws => optN (f ws) s
  | none => .bad
theorem s_callB {rd : RCD} {f : List D → Option D} {fl : FL} (hf : RcF rd f) (hr : SimL fl dr) : SimE (fCB f fl) (dCB rd dr) := by
  intro c fs sl M ED Q r q
  refine hr c fs sl M ED _ r ?_
  unfold fCB at q
  cases e : fl fs with
  | ok gs fs1 =>
    rw [e, ok_bind] at q
    intro xs M1 r1 l1
    split at q
    · rename_i ws ew
      refine l1 fs1 M1 ws _ r1 ew ?_
      cases ef : f ws with
      | some z => rw [ef] at q; exact hf _ _ _ _ ef (q z M1 (r1.im z))
      | none => rw [ef] at q; exact q.elim
    · exact q.elim
  | ex cl f' fs' => rw [e] at q; exact q
  | bad => rw [e] at q; exact q.elim
theorem s_callBN {rd : RCD} {f : List D → Option N} {fl : FL} (hf : ∀ ws n M Q, f ws = some n → al true n M Q → rd ws M Q) (hk : ∀ ws n, f ws = some n → okN n = true) (hr : SimL fl dr) : SimE (fCBN f fl) (dCB rd dr) := by
  intro c fs sl M ED Q r q
  refine hr c fs sl M ED _ r ?_
  unfold fCBN at q
  cases e : fl fs with
  | ok gs fs1 =>
    rw [e, ok_bind] at q
    intro xs M1 r1 l1
    split at q
    · rename_i ws ew
      refine l1 fs1 M1 ws _ r1 ew ?_
      cases ef : f ws with
      | some z => rw [ef] at q; exact hf _ _ _ _ ef (al_new (hk _ _ ef) r1 q)
      | none => rw [ef] at q; exact q.elim
    · exact q.elim
  | ex cl f' fs' => rw [e] at q; exact q
  | bad => rw [e] at q; exact q.elim
end
end F

/-! F3: slots changed; slices, fields; what is walked; statements, loops. -/
namespace F
open PySem PySem.Spec L2 OD
def owned : Sv → Bool
  | .im _ => false
  | .lok _ _ => false
  | _ => true
/-- slots told anew: each holds data, or what it held -/
theorem Rl.chg {c : Cz} {fs fs' : Sl} {sl sl' : Slots} {M : Mem} {w : Sv} {d : D} {E : Nat → Mem} (r : Rl c fs sl M w d E) (hl : fs'.length = sl'.length)
    (h : ∀ (i : Nat) (sv : Sv), fs'[i]? = some (some sv) → (∃ d, sv = Sv.im d ∧ sl'[i]? = some (some d)) ∨ (fs[i]? = some (some sv) ∧ sl'[i]? = sl[i]?)) : RelW c fs' sl' M w d := by
  have keep : ∀ i, (match i with | 0 => E 0 | i + 1 => (match fs'[i]? with | some (some sv) => if owned sv then E (i + 1) else [] | _ => [])) = [] ∨ (match i with | 0 => E 0 | i + 1 => (match fs'[i]? with | some (some sv) => if owned sv then E (i + 1) else [] | _ => [])) = E i := fun i => by
    cases i with
    | zero => exact .inr rfl
    | succ i =>
      dsimp only
      split
      · split
        · exact .inr rfl
        · exact .inl rfl
      · exact .inl rfl
  refine ⟨fun i => (match i with | 0 => E 0 | i + 1 => (match fs'[i]? with | some (some sv) => if owned sv then E (i + 1) else [] | _ => [])), r.nd, hl, r.tmp, fun i sv e => ?_, fun i e he => ?_, fun i => ?_, fun i j a n ha hb => ?_, fun i hi => ?_, fun i a hi ha => ?_, r.pre, r.lks, fun e he i hi => ?_⟩
  · dsimp only
    rw [e]
    rcases h i sv e with ⟨d, rfl, e2⟩ | ⟨e1, e2⟩
    · exact ⟨d, e2, rfl, rfl⟩
    · obtain ⟨d, h1, h2⟩ := r.slt i sv e1
      refine ⟨d, by rw [e2]; exact h1, ?_⟩
      cases sv with
      | im _ => exact ⟨h2.1, rfl⟩
      | lok _ _ => exact ⟨rfl, h2.2⟩
      | _ => exact h2
  · rcases keep i with k | k
    · rw [k] at he; cases he
    · rw [k] at he; exact r.sub i e he
  · rcases keep i with k | k
    · rw [k]; exact List.nodup_nil
    · rw [k]; exact r.ndE i
  · rcases keep i with k | k
    · rw [k] at ha; cases ha
    · rcases keep j with k2 | k2
      · rw [k2] at hb; cases hb
      · rw [k] at ha; rw [k2] at hb; exact r.dis i j a n ha hb
  · rcases keep (i + 1) with k | k
    · exact .inl k
    · rcases r.pin i hi with p | p
      · exact .inl (k.trans p)
      · exact .inr ((congrArg keys k).trans p)
  · rcases keep i with k | k
    · rw [k] at ha; cases ha
    · rw [k] at ha; exact r.frs i a hi ha
  · rcases keep i with k | k
    · rw [k] at hi; cases hi
    · rw [k] at hi; exact r.lkd e he i hi
theorem Rel.chg {c : Cz} {fs fs' : Sl} {sl sl' : Slots} {M : Mem} (r : Rel c fs sl M) (hl : fs'.length = sl'.length)
    (h : ∀ (i : Nat) (sv : Sv), fs'[i]? = some (some sv) → (∃ d, sv = Sv.im d ∧ sl'[i]? = some (some d)) ∨ (fs[i]? = some (some sv) ∧ sl'[i]? = sl[i]?)) : Rel c fs' sl' M := by
  obtain ⟨E, r⟩ := r
  exact r.chg hl h
theorem RelW.len {c : Cz} {fs : Sl} {sl : Slots} {M : Mem} {w : Sv} {d : D} (r : RelW c fs sl M w d) : fs.length = sl.length := by
  obtain ⟨E, r⟩ := r
  exact r.len
theorem Rel.len {c : Cz} {fs : Sl} {sl : Slots} {M : Mem} (r : Rel c fs sl M) : fs.length = sl.length := RelW.len r
/-- a slot gets data -/
theorem Rel.set {c : Cz} {fs : Sl} {sl : Slots} {M : Mem} (r : Rel c fs sl M) (i : Nat) (d : D) : Rel c (fs.set i (some (.im d))) (sl.set i (some d)) M := by
  refine r.chg (by rw [List.length_set, List.length_set, r.len]) fun j sv e => ?_
  by_cases z : i = j
  · subst z
    have hi : i < fs.length := by
      have := (List.getElem?_eq_some_iff.mp e).1
      rwa [List.length_set] at this
    rw [List.getElem?_set_self hi] at e
    cases e
    exact .inl ⟨d, rfl, List.getElem?_set_self (by rw [← r.len]; exact hi)⟩
  · rw [List.getElem?_set_ne z] at e
    exact .inr ⟨e, List.getElem?_set_ne z⟩
/-- a slot is emptied -/
theorem Rel.clr {c : Cz} {fs : Sl} {sl : Slots} {M : Mem} (r : Rel c fs sl M) (i : Nat) (o : Option D) : Rel c (fs.set i none) (sl.set i o) M := by
  refine r.chg (by rw [List.length_set, List.length_set, r.len]) fun j sv e => ?_
  by_cases z : i = j
  · subst z
    have hi : i < fs.length := by
      have := (List.getElem?_eq_some_iff.mp e).1
      rwa [List.length_set] at this
    rw [List.getElem?_set_self hi] at e
    cases e
  · rw [List.getElem?_set_ne z] at e
    exact .inr ⟨e, List.getElem?_set_ne z⟩
/-- a slot that is no argument's gets what is in hand -/
theorem RelW.put {c : Cz} {fs : Sl} {sl : Slots} {M : Mem} {w : Sv} {d : D} (r : RelW c fs sl M w d) (i : Nat) (hi : c.np ≤ i) : Rel c (fs.set i (some w)) (sl.set i (some d)) M := by
  obtain ⟨E, r⟩ := r
  have e0 : ∀ j, (if j = 0 then [] else if j = i + 1 then E 0 else E j) = [] ∨ ((j = i + 1) ∧ (if j = 0 then [] else if j = i + 1 then E 0 else E j) = E 0) ∨ (j ≠ 0 ∧ j ≠ i + 1 ∧ (if j = 0 then [] else if j = i + 1 then E 0 else E j) = E j) := fun j => by
    by_cases z : j = 0
    · exact .inl (by rw [if_pos z])
    · by_cases z2 : j = i + 1
      · exact .inr (.inl ⟨z2, by rw [if_neg z, if_pos z2]⟩)
      · exact .inr (.inr ⟨z, z2, by rw [if_neg z, if_neg z2]⟩)
  refine ⟨fun j => if j = 0 then [] else if j = i + 1 then E 0 else E j, r.nd, by rw [List.length_set, List.length_set, r.len], ⟨rfl, rfl⟩, fun j sv e => ?_, fun j e he => ?_, fun j => ?_, fun j k a n ha hb => ?_, fun j hj => ?_, fun j a hj ha => ?_, r.pre, r.lks, fun e he j hj => ?_⟩
  · rw [if_neg (Nat.succ_ne_zero j)]
    by_cases z : i = j
    · subst z
      have hl : i < fs.length := by
        have := (List.getElem?_eq_some_iff.mp e).1
        rwa [List.length_set] at this
      rw [List.getElem?_set_self hl] at e
      cases e
      exact ⟨d, List.getElem?_set_self (by rw [← r.len]; exact hl), by rw [if_pos rfl]; exact r.tmp⟩
    · rw [List.getElem?_set_ne z] at e
      obtain ⟨d', h1, h2⟩ := r.slt j sv e
      exact ⟨d', by rw [List.getElem?_set_ne z]; exact h1, by rw [if_neg (by omega)]; exact h2⟩
  · rcases e0 j with k | ⟨_, k⟩ | ⟨_, _, k⟩ <;> rw [k] at he
    · cases he
    · exact r.sub 0 e he
    · exact r.sub j e he
  · rcases e0 j with k | ⟨_, k⟩ | ⟨_, _, k⟩ <;> rw [k]
    · exact List.nodup_nil
    · exact r.ndE 0
    · exact r.ndE j
  · rcases e0 j with k1 | ⟨q1, k1⟩ | ⟨q1, q1', k1⟩ <;> rw [k1] at ha
    · cases ha
    · rcases e0 k with k2 | ⟨q2, k2⟩ | ⟨q2, q2', k2⟩ <;> rw [k2] at hb
      · cases hb
      · exact n (by rw [q1, q2])
      · exact r.dis 0 k a (Ne.symm q2) ha hb
    · rcases e0 k with k2 | ⟨q2, k2⟩ | ⟨q2, q2', k2⟩ <;> rw [k2] at hb
      · cases hb
      · exact r.dis j 0 a q1 ha hb
      · exact r.dis j k a n ha hb
  · rw [if_neg (Nat.succ_ne_zero j), if_neg (by omega)]
    exact r.pin j hj
  · rcases e0 j with k | ⟨q, k⟩ | ⟨q, q', k⟩ <;> rw [k] at ha
    · cases ha
    · exact r.frs 0 a (.inl rfl) ha
    · exact r.frs j a (hj.elim (fun z => absurd z q) .inr) ha
  · rcases e0 j with k | ⟨q, k⟩ | ⟨q, q', k⟩ <;> rw [k] at hj
    · cases hj
    · exact r.lkd e he 0 hj
    · exact r.lkd e he j hj

section
variable {fa fb fc : FE} {oa ob oc : FO} {da db dc : DE} {ta tb : FT} {ua ub : DT} {as : FA} {dr : DA}
/-! ### slices, fields -/
@[simp] noncomputable def slF : D → Option Int → Option Int → Option D
  | .lst xs, lo, hi => some (.lst (cutL xs lo hi))
  | .tup xs, lo, hi => some (.tup (cutL xs lo hi))
  | .str z, lo, hi => cif (z.length ≤ 16777216) (some (.str (cutS z lo hi))) (none)
  | .scr ns, lo, hi => some (.lst ((cutL ns lo hi).map .int))
  | _, _, _ => none
abbrev FP := Sl → R (Option Int)
def PoP (c : Cz) (sl : Slots) (ED : XD) (Q : Option Int → Mem → Prop) : R (Option Int) → Prop
  | .ok b fs => ∀ M, Rel c fs sl M → Q b M
  | .ex cls f fs => ∀ M, Rel c fs sl M → ED cls f M
  | .bad => False
def SimP (fp : FP) (d : DO) : Prop := ∀ (c : Cz) (fs : Sl) (sl : Slots) (M : Mem) (ED : XD) (Q : Option Int → Mem → Prop), Rel c fs sl M → PoP c sl ED Q (fp fs) → d sl M ED Q
@[simp] def pNo (s : Sl) : R (Option Int) := .ok none s
@[simp] def inK {α : Type} (w : Sv) (f : Int → R α) : R α := match w with
  | .im (.int i) => f i
  | _ => .bad
@[simp] def pSo (a : FE) (s : Sl) : R (Option Int) := (a s).bind fun w s => inK w fun i => .ok (some i) s
theorem p_no : SimP pNo dNoPart := fun c fs sl M ED Q r q => q M r
theorem p_so (ha : SimE fa da) : SimP (pSo fa) (dPart da) := by
  intro c fs sl M ED Q r q
  refine ha c fs sl M ED _ r ?_
  unfold pSo at q
  cases e : fa fs with
  | ok w fs1 =>
    rw [e, ok_bind] at q
    intro d M1 r1
    unfold inK at q
    cases w with
    | im x =>
      cases x with
      | int i =>
        cases r1.eq
        exact ⟨i, rfl, q M1 r1.rel⟩
      | _ => exact q.elim
    | _ => exact q.elim
  | ex cl f' fs' => rw [e] at q; exact q
  | bad => rw [e] at q; exact q.elim
theorem slF_ok {x : D} {lo hi : Option Int} {z : D} {M : Mem} {Q : DK} (h : slF x lo hi = some z) (q : Q z M) : slD false x lo hi M Q := by
  cases x with
  | lst xs => cases h; exact q
  | tup xs => cases h; exact q
  | scr xs => cases h; exact q
  | str z =>
    replace h : (cif (z.length ≤ 16777216) (some (D.str (cutS z lo hi))) (none)) = some _ := h
    by_cases hz : z.length ≤ 16777216
    · rw [cif_pos hz] at h; cases h; exact ⟨hz, q⟩
    · rw [cif_neg hz] at h; cases h
  | _ => cases h
theorem poP_cases {c : Cz} {sl : Slots} {ED : XD} {r : R (Option Int)} {f : Option Int → Sl → R Sv} {Q : DK} (q : PoE c sl ED Q (r.bind f)) {Q' : Option Int → Mem → Prop} (h : ∀ w fs, r = .ok w fs → PoE c sl ED Q (f w fs) → ∀ M, Rel c fs sl M → Q' w M) : PoP c sl ED Q' r := by
  cases r with
  | ok w fs => exact h w fs rfl q
  | ex cl g fs => exact q
  | bad => exact q.elim
theorem poO_cases {c : Cz} {sl : Slots} {ED : XD} {r : R (Sl → Option D)} {f : (Sl → Option D) → Sl → R Sv} {Q : DK} (q : PoE c sl ED Q (r.bind f)) {Q' : DK} (h : ∀ g fs, r = .ok g fs → PoE c sl ED Q (f g fs) → ∀ x M, Rel c fs sl M → Late c sl g x → Q' x M) : PoO c sl ED Q' r := by
  cases r with
  | ok w fs => exact h w fs rfl q
  | ex cl g fs => exact q
  | bad => exact q.elim
@[simp] noncomputable def fSl (a : FO) (lo hi : FP) (s : Sl) : R Sv := (a s).bind fun g s => (lo s).bind fun i s => (hi s).bind fun j s => match g s with
  | some x => optI (slF x i j) s
  | none => .bad
theorem s_sl {lo hi : FP} {dl dh : DO} (ha : SimO oa da) (hl : SimP lo dl) (hh : SimP hi dh) : SimE (fSl oa lo hi) (dSl false da dl dh) := by
  intro c fs sl M ED Q r q
  refine ha c fs sl M ED _ r (poO_cases q fun g fs1 e q x M1 r1 l1 => ?_)
  refine hl c fs1 sl M1 ED _ r1 (poP_cases q fun i fs2 e q M2 r2 => ?_)
  refine hh c fs2 sl M2 ED _ r2 (poP_cases q fun j fs3 e q M3 r3 => ?_)
  split at q
  · rename_i x' gx
    refine l1 fs3 M3 x' _ r3 gx ?_
    cases ef : slF x' i j with
    | some z => rw [ef] at q; exact slF_ok ef (q z M3 (r3.im z))
    | none => rw [ef] at q; exact q.elim
  · exact q.elim
@[simp] def fldF (P : Addr → Bool) (f : Str) : D → Option D
  | .obj C fs => if P C = true then fs.lookup f else none
  | _ => none
@[simp] def fFld (P : Addr → Bool) (f : Str) (a : FO) (s : Sl) : R Sv := (a s).bind fun g s => match g s with
  | some x => optI (fldF P f x) s
  | none => .bad
theorem s_fld {P : Addr → Bool} {P' : Addr → Prop} {f : Str} (hP : ∀ C, P C = true → P' C) (ha : SimO oa da) : SimE (fFld P f oa) (dFld P' f da) := by
  intro c fs sl M ED Q r q
  refine ha c fs sl M ED _ r (poO_cases q fun g fs1 e q x M1 r1 l1 => ?_)
  split at q
  · rename_i x' gx
    refine l1 fs1 M1 x' _ r1 gx ?_
    unfold fldF at q
    cases x' with
    | obj C fs =>
      dsimp only at q
      split at q
      · rename_i hC
        cases ef : fs.lookup f with
        | some z => rw [ef] at q; exact ⟨C, fs, z, rfl, hP C hC, ef, q z M1 (r1.im z)⟩
        | none => rw [ef] at q; exact q.elim
      · exact q.elim
    | _ => exact q.elim
  · exact q.elim
/-! ### what is walked -/
abbrev FI := Sl → R (List D)
structure ItOk (it : Itm) (xs : List D) : Prop where
  n : it.n = xs.length
  at_ : ∀ i (h : i < xs.length), it.at_ i = xs[i]
  gd : ∀ M, it.gd M
def PoI (c : Cz) (sl : Slots) (ED : XD) (Q : Itm → Mem → Prop) : R (List D) → Prop
  | .ok xs fs => ∀ it M, Rel c fs sl M → ItOk it xs → Q it M
  | .ex cls f fs => ∀ M, Rel c fs sl M → ED cls f M
  | .bad => False
def SimI (fi : FI) (di : DI) : Prop := ∀ (c : Cz) (fs : Sl) (sl : Slots) (M : Mem) (ED : XD) (Q : Itm → Mem → Prop), Rel c fs sl M → PoI c sl ED Q (fi fs) → di sl M ED Q
def strL (z : Str) : List D := z.cps.toList.map fun c => .str ⟨#[c]⟩
@[simp] def seqF : D → Option (List D)
  | .lst xs => some xs
  | .tup xs => some xs
  | .scr ns => some (ns.map .int)
  | .str z => some (strL z)
  | _ => none
theorem seqF_ok {d : D} {xs : List D} {M : Mem} {RD : Itm → Mem → Prop} (h : seqF d = some xs) (q : ∀ it, ItOk it xs → RD it M) : vwG M d fun w gd => seqI w gd M RD := by
  have sq : ∀ ys : List D, ItOk (itSeq ys fun _ => True) ys := fun ys => ⟨rfl, fun i h => by show (ys[i]?).getD .non = _; rw [List.getElem?_eq_getElem h]; rfl, fun _ => trivial⟩
  cases d with
  | lst ys => cases h; exact q _ (sq _)
  | tup ys => cases h; exact q _ (sq _)
  | scr ns => cases h; exact q _ (sq _)
  | str z =>
    cases h
    refine q _ ⟨by show _ = (strL z).length; unfold strL; rw [List.length_map, Array.length_toList]; rfl, fun i h => ?_, fun _ => trivial⟩
    unfold strL at h ⊢
    rw [List.length_map, Array.length_toList] at h
    rw [List.getElem_map, Array.getElem_toList]
    show D.str ⟨#[(z.cps[i]?).getD 0]⟩ = _
    rw [Array.getElem?_eq_getElem h]
    rfl
  | _ => cases h
theorem poE_casesI {c : Cz} {sl : Slots} {ED : XD} {r : R Sv} {f : Sv → Sl → R (List D)} {Q : Itm → Mem → Prop} (q : PoI c sl ED Q (r.bind f)) {Q' : DK} (h : ∀ w fs, r = .ok w fs → PoI c sl ED Q (f w fs) → ∀ d M, RelW c fs sl M w d → Q' d M) : PoE c sl ED Q' r := by
  cases r with
  | ok w fs => exact h w fs rfl q
  | ex cl g fs => exact q
  | bad => exact q.elim
theorem poA_casesI {c : Cz} {sl : Slots} {ED : XD} {r : R (List D)} {f : List D → Sl → R (List D)} {Q : Itm → Mem → Prop} (q : PoI c sl ED Q (r.bind f)) {Q' : List D → Mem → Prop} (h : ∀ w fs, r = .ok w fs → PoI c sl ED Q (f w fs) → ∀ M, Rel c fs sl M → Q' w M) : PoA c sl ED Q' r := by
  cases r with
  | ok w fs => exact h w fs rfl q
  | ex cl g fs => exact q
  | bad => exact q.elim
@[simp] def iSeq (a : FE) (s : Sl) : R (List D) := (a s).bind fun w s => imK w fun d => opt (seqF d) s
theorem i_seq (ha : SimE fa da) : SimI (iSeq fa) (diSeq da) := by
  intro c fs sl M ED Q r q
  refine ha c fs sl M ED _ r (poE_casesI q fun w fs1 e q d M1 r1 => ?_)
  cases w with
  | im x =>
    cases r1.eq
    replace q : PoI c sl ED Q (opt (seqF d) fs1) := q
    cases ef : seqF d with
    | some xs => rw [ef] at q; exact seqF_ok ef fun it ok => q it M1 r1.rel ok
    | none => rw [ef] at q; exact q.elim
  | _ => exact q.elim
def enumL (xs : List D) : List D := xs.mapIdx fun i x => .tup [.int (i : Nat), x]
@[simp] def enF : D → Option (List D)
  | .lst xs => some (enumL xs)
  | .tup xs => some (enumL xs)
  | _ => none
theorem itEnum_ok (ys : List D) : ItOk (itEnum ys fun _ => True) (enumL ys) := ⟨by show ys.length = _; unfold enumL; rw [List.length_mapIdx], fun i h => by
  unfold enumL at h ⊢
  rw [List.length_mapIdx] at h
  rw [List.getElem_mapIdx]
  show D.tup [.int (i : Nat), (ys[i]?).getD .non] = _
  rw [List.getElem?_eq_getElem h]
  rfl, fun _ => trivial⟩
@[simp] def iEnum (a : FA) (s : Sl) : R (List D) := (a s).bind fun ds s => match ds with
  | [d] => opt (enF d) s
  | _ => .bad
theorem i_enum (ha : SimA as dr) : SimI (iEnum as) (diEnum dr) := by
  intro c fs sl M ED Q r q
  refine ha c fs sl M ED _ r (poA_casesI q fun ds fs1 e q M1 r1 => ?_)
  split at q
  · rename_i d
    refine ⟨d, rfl, ?_⟩
    cases d with
    | lst ys => exact q _ M1 r1 (itEnum_ok ys)
    | tup ys => exact q _ M1 r1 (itEnum_ok ys)
    | _ => exact q.elim
  · exact q.elim
@[simp] def rgL (lo c : Int) (n : Nat) : List D := (List.range n).map fun (i : Nat) => D.int (lo + (i : Int) * c)
theorem itRange_ok (lo c : Int) (n : Nat) : ItOk (itRange lo c n) (rgL lo c n) := ⟨by show n = _; unfold rgL; rw [List.length_map, List.length_range], fun i h => by
  unfold rgL at h ⊢
  rw [List.getElem_map, List.getElem_range]
  rfl, fun _ => trivial⟩
abbrev rOk (i : Int) : Prop := -4611686018427387904 ≤ i ∧ i < 4611686018427387904
@[simp] noncomputable def rg1F : List D → Option (List D)
  | [.int j] => cif (rOk j) (some (rgL 0 1 j.toNat)) (none)
  | _ => none
@[simp] noncomputable def rg2F : List D → Option (List D)
  | [.int i, .int j] => cif (rOk i ∧ rOk j) (some (rgL i 1 (j - i).toNat)) (none)
  | _ => none
@[simp] noncomputable def rg3F : List D → Option (List D)
  | [.int i, .int j, .int c] => cif (c = -1 ∧ rOk i ∧ rOk j) (some (rgL i (-1) (i - j).toNat)) (
    cif (c ≠ 0 ∧ c.natAbs < 1073741824 ∧ Builtin.Range.small i j c = true ∧ 0 ≤ Builtin.Range.rangeSize i j c) (some (rgL i c (Builtin.Range.rangeSize i j c).toNat)) none)
  | _ => none
@[simp] def iRg (f : List D → Option (List D)) (a : FA) (s : Sl) : R (List D) := (a s).bind fun ds s => opt (f ds) s
theorem i_range1 (ha : SimA as dr) : SimI (iRg rg1F as) (diRange1 dr) := by
  intro c fs sl M ED Q r q
  refine ha c fs sl M ED _ r (poA_casesI q fun ds fs1 e q M1 r1 => ?_)
  unfold rg1F at q
  split at q
  · rename_i j
    by_cases h : rOk j
    · rw [cif_pos h] at q; exact ⟨j, rfl, by have := h.1; omega, by have := h.2; omega, q _ M1 r1 (itRange_ok 0 1 _)⟩
    · rw [cif_neg h] at q; exact q.elim
  · exact q.elim
theorem i_range2 (ha : SimA as dr) : SimI (iRg rg2F as) (diRange2 dr) := by
  intro c fs sl M ED Q r q
  refine ha c fs sl M ED _ r (poA_casesI q fun ds fs1 e q M1 r1 => ?_)
  unfold rg2F at q
  split at q
  · rename_i i j
    by_cases h : rOk i ∧ rOk j
    · rw [cif_pos h] at q; exact ⟨i, j, rfl, by obtain ⟨⟨h1, h2⟩, h3, h4⟩ := h; refine ⟨?_, ?_, ?_, ?_⟩ <;> omega, q _ M1 r1 (itRange_ok i 1 _)⟩
    · rw [cif_neg h] at q; exact q.elim
  · exact q.elim
theorem i_range3 (ha : SimA as dr) : SimI (iRg rg3F as) (diRange3 dr) := by
  intro c fs sl M ED Q r q
  refine ha c fs sl M ED _ r (poA_casesI q fun ds fs1 e q M1 r1 => ?_)
  unfold rg3F at q
  split at q
  · rename_i i j k
    by_cases h : k = -1 ∧ rOk i ∧ rOk j
    · rw [cif_pos h] at q
      obtain ⟨rfl, h1, h2⟩ := h
      exact ⟨i, j, -1, _, rfl, RgC.neg (by have := h1.1; omega) (by have := h1.2; omega) (by have := h2.1; omega) (by have := h2.2; omega), q _ M1 r1 (itRange_ok i (-1) _)⟩
    · rw [cif_neg h] at q
      by_cases h2 : k ≠ 0 ∧ k.natAbs < 1073741824 ∧ Builtin.Range.small i j k = true ∧ 0 ≤ Builtin.Range.rangeSize i j k
      · rw [cif_pos h2] at q
        exact ⟨i, j, k, _, rfl, ⟨h2.1, h2.2.1, h2.2.2.1, by omega⟩, q _ M1 r1 (itRange_ok i k _)⟩
      · rw [cif_neg h2] at q; exact q.elim
  · exact q.elim
end
end F

/-! F4: targets, statements, loops, comprehensions. -/
namespace F
open PySem PySem.Spec L2 OD
section
variable {fa fb fc : FE} {oa ob oc : FO} {da db dc : DE} {ta tb : FT} {ua ub : DT} {as : FA} {dr : DA} {fi : FI} {di : DI}
/-! ### targets: they write slots of vs alone -/
abbrev FG := D → Sl → Option Sl
abbrev FGs := List D → Sl → Option Sl
def SimG (vs : List Nat) (tg : FG) (dg : DG) : Prop := ∀ (c : Cz) (fs fs' : Sl) (sl : Slots) (M : Mem) (d : D) (Q : Slots → Mem → Prop), Rel c fs sl M → tg d fs = some fs' → (∀ sl' : Slots, (sl'.length = sl.length ∧ ∀ i : Nat, i ∉ vs → sl'[i]? = sl[i]?) → Rel c fs' sl' M → Q sl' M) → dg d sl M Q
def SimGs (vs : List Nat) (tg : FGs) (dg : DGs) : Prop := ∀ (c : Cz) (fs fs' : Sl) (sl : Slots) (M : Mem) (d : List D) (Q : Slots → Mem → Prop), Rel c fs sl M → tg d fs = some fs' → (∀ sl' : Slots, (sl'.length = sl.length ∧ ∀ i : Nat, i ∉ vs → sl'[i]? = sl[i]?) → Rel c fs' sl' M → Q sl' M) → dg d sl M Q
@[simp] def gName (i : Nat) (d : D) (s : Sl) : Option Sl := some (s.set i (some (.im d)))
@[simp] def gNil (ds : List D) (s : Sl) : Option Sl := match ds with
  | [] => some s
  | _ => none
@[simp] def gCons (g : FG) (r : FGs) (ds : List D) (s : Sl) : Option Sl := match ds with
  | d :: ds => (match g d s with | some s => r ds s | none => none)
  | [] => none
@[simp] def gTup (n : Nat) (r : FGs) (d : D) (s : Sl) : Option Sl := match d with
  | .tup ds => if ds.length = n then r ds s else none
  | _ => none
theorem g_name (i : Nat) : SimG [i] (gName i) (dName i) := fun c fs fs' sl M d Q r e q => by
  cases e
  exact q _ ⟨List.length_set, fun j hj => List.getElem?_set_ne (fun z => hj (by rw [z]; simp))⟩ (r.set i d)
theorem g_nil : SimGs [] gNil dgNil := fun c fs fs' sl M ds Q r e q => by
  cases ds with
  | nil => cases e; exact ⟨rfl, q sl ⟨rfl, fun _ _ => rfl⟩ r⟩
  | cons _ _ => cases e
theorem g_cons {vs ws : List Nat} {g : FG} {gs : FGs} {dg : DG} {dgs : DGs} (h1 : SimG vs g dg) (h2 : SimGs ws gs dgs) : SimGs (vs ++ ws) (gCons g gs) (dgCons dg dgs) := fun c fs fs' sl M ds Q r e q => by
  cases ds with
  | nil => cases e
  | cons d ds =>
    unfold gCons at e
    dsimp only at e
    cases e1 : g d fs with
    | none => rw [e1] at e; cases e
    | some fs1 =>
      rw [e1] at e
      refine ⟨d, ds, rfl, h1 c fs fs1 sl M d _ r e1 fun sl1 k1 r1 => h2 c fs1 fs' sl1 M ds _ r1 e fun sl2 k2 r2 => q sl2 ⟨k2.1.trans k1.1, fun i hi => ?_⟩ r2⟩
      rw [List.mem_append] at hi
      rw [k2.2 i fun z => hi (.inr z), k1.2 i fun z => hi (.inl z)]
theorem g_tup {n : Nat} {vs : List Nat} {gs : FGs} {dgs : DGs} (h : SimGs vs gs dgs) : SimG vs (gTup n gs) (dgTup n dgs) := fun c fs fs' sl M d Q r e q => by
  cases d with
  | tup ds =>
    replace e : (if ds.length = n then gs ds fs else none) = some fs' := e
    by_cases hn : ds.length = n
    · rw [if_pos hn] at e; exact ⟨hn, h c fs fs' sl M ds Q r e q⟩
    · rw [if_neg hn] at e; cases e
  | _ => cases e
/-! ### statements -/
def PoS (c : Cz) (Dd : DEnds) : O → Prop
  | .nx fs => ∀ sl M, Rel c fs sl M → Dd.nx sl M
  | .rt w fs => ∀ d sl M, RelW c fs sl M w d → Dd.rt d M
  | .bk fs => ∀ sl M, Rel c fs sl M → Dd.bk sl M
  | .ct fs => ∀ sl M, Rel c fs sl M → Dd.ct sl M
  | .ex cls f fs => ∀ sl M, Rel c fs sl M → Dd.ex sl cls f M
  | .bad => False
def SimS (np : Nat) (st : FS) (td : DS) : Prop := ∀ (c : Cz), c.np = np → ∀ (Dd : DEnds) (fs : Sl) (sl : Slots) (M : Mem), Rel c fs sl M → PoS c Dd (st fs) → td Dd sl M
variable {np : Nat} {s1 s2 : FS} {t1 t2 : DS}
theorem poE_st {c : Cz} {sl : Slots} {Dd : DEnds} {r : R Sv} {f : Sv → Sl → O} (q : PoS c Dd (r.thn f)) {Q' : DK} (h : ∀ w fs, r = .ok w fs → PoS c Dd (f w fs) → ∀ d M, RelW c fs sl M w d → Q' d M) : PoE c sl (Dd.ex sl) Q' r := by
  cases r with
  | ok w fs => exact h w fs rfl q
  | ex cl g fs => exact fun M r => q sl M r
  | bad => exact q.elim
theorem poB_st {c : Cz} {sl : Slots} {Dd : DEnds} {r : R Bool} {f : Bool → Sl → O} (q : PoS c Dd (r.thn f)) {Q' : Bool → Mem → Prop} (h : ∀ w fs, r = .ok w fs → PoS c Dd (f w fs) → ∀ M, Rel c fs sl M → Q' w M) : PoB c sl (Dd.ex sl) Q' r := by
  cases r with
  | ok w fs => exact h w fs rfl q
  | ex cl g fs => exact fun M r => q sl M r
  | bad => exact q.elim
theorem poA_st {c : Cz} {sl : Slots} {Dd : DEnds} {r : R (List D)} {f : List D → Sl → O} (q : PoS c Dd (r.thn f)) {Q' : List D → Mem → Prop} (h : ∀ w fs, r = .ok w fs → PoS c Dd (f w fs) → ∀ M, Rel c fs sl M → Q' w M) : PoA c sl (Dd.ex sl) Q' r := by
  cases r with
  | ok w fs => exact h w fs rfl q
  | ex cl g fs => exact fun M r => q sl M r
  | bad => exact q.elim
theorem poO_st {c : Cz} {sl : Slots} {Dd : DEnds} {r : R (Sl → Option D)} {f : (Sl → Option D) → Sl → O} (q : PoS c Dd (r.thn f)) {Q' : DK} (h : ∀ w fs, r = .ok w fs → PoS c Dd (f w fs) → ∀ x M, Rel c fs sl M → Late c sl w x → Q' x M) : PoO c sl (Dd.ex sl) Q' r := by
  cases r with
  | ok w fs => exact h w fs rfl q
  | ex cl g fs => exact fun M r => q sl M r
  | bad => exact q.elim
theorem poI_st {c : Cz} {sl : Slots} {Dd : DEnds} {r : R (List D)} {f : List D → Sl → O} (q : PoS c Dd (r.thn f)) {Q' : Itm → Mem → Prop} (h : ∀ w fs, r = .ok w fs → PoS c Dd (f w fs) → ∀ it M, Rel c fs sl M → ItOk it w → Q' it M) : PoI c sl (Dd.ex sl) Q' r := by
  cases r with
  | ok w fs => exact h w fs rfl q
  | ex cl g fs => exact fun M r => q sl M r
  | bad => exact q.elim
@[simp] def fNext (s : Sl) : O := .nx s
@[simp] def fSeq (a b : FS) (s : Sl) : O := (a s).then b
@[simp] def fBreak (s : Sl) : O := .bk s
@[simp] def fCont (s : Sl) : O := .ct s
@[simp] def fNever (s : Sl) : O := .bad
@[simp] def fDrop (a : FE) (s : Sl) : O := (a s).thn fun _ s => .nx s
@[simp] def fAsg (a : FE) (i : Nat) (s : Sl) : O := (a s).thn fun w s => .nx (s.set i (some w))
@[simp] def imS (w : Sv) (f : D → O) : O := match w with
  | .im d => f d
  | _ => .bad
@[simp] def fAsgG (a : FE) (g : FG) (s : Sl) : O := (a s).thn fun w s => imS w fun d => match g d s with
  | some s => .nx s
  | none => .bad
@[simp] def fRet (a : FE) (s : Sl) : O := (a s).thn fun w s => .rt w s
@[simp] def fRetN (s : Sl) : O := .rt (.im .non) s
@[simp] def fIfS (t : FT) (a b : FS) (s : Sl) : O := (t s).thn fun c s => if c = true then a s else b s
theorem s_next : SimS np fNext dNext := fun c hc Dd fs sl M r q => q sl M r
theorem s_break : SimS np fBreak dBreak := fun c hc Dd fs sl M r q => q sl M r
theorem s_cont : SimS np fCont dCont := fun c hc Dd fs sl M r q => q sl M r
theorem s_never : SimS np fNever dNever := fun c hc Dd fs sl M r q => q
theorem s_seq (h1 : SimS np s1 t1) (h2 : SimS np s2 t2) : SimS np (fSeq s1 s2) (dSeq t1 t2) := by
  intro c hc Dd fs sl M r q
  refine h1 c hc { Dd with nx := t2 Dd } fs sl M r ?_
  unfold fSeq at q
  cases e : s1 fs with
  | nx fs1 => rw [e] at q; exact fun sl1 M1 r1 => h2 c hc Dd fs1 sl1 M1 r1 q
  | rt w fs1 => rw [e] at q; exact q
  | bk fs1 => rw [e] at q; exact q
  | ct fs1 => rw [e] at q; exact q
  | ex cl g fs1 => rw [e] at q; exact q
  | bad => rw [e] at q; exact q
theorem s_drop (ha : SimE fa da) : SimS np (fDrop fa) (dDrop da) := by
  intro c hc Dd fs sl M r q
  exact ha c fs sl M _ _ r (poE_st q fun w fs1 e q d M1 r1 => q sl M1 r1.rel)
theorem s_asg {i : Nat} (ha : SimE fa da) (hi : np ≤ i) : SimS np (fAsg fa i) (dAsg da (dName i)) := by
  intro c hc Dd fs sl M r q
  exact ha c fs sl M _ _ r (poE_st q fun w fs1 e q d M1 r1 => q _ M1 (r1.put i (by rw [hc]; exact hi)))
theorem s_asgG {g : FG} {dg : DG} {vs : List Nat} (ha : SimE fa da) (hg : SimG vs g dg) : SimS np (fAsgG fa g) (dAsg da dg) := by
  intro c hc Dd fs sl M r q
  refine ha c fs sl M _ _ r (poE_st q fun w fs1 e q d M1 r1 => ?_)
  cases w with
  | im x =>
    obtain rfl := r1.eq
    unfold imS at q
    dsimp only at q
    cases eg : g d fs1 with
    | some fs2 => rw [eg] at q; exact hg c fs1 fs2 sl M1 d _ r1.rel eg fun sl' k r2 => q sl' M1 r2
    | none => rw [eg] at q; exact q.elim
  | _ => exact q.elim
theorem s_ret (ha : SimE fa da) : SimS np (fRet fa) (dRet false da) := by
  intro c hc Dd fs sl M r q
  exact ha c fs sl M _ _ r (poE_st q fun w fs1 e q d M1 r1 => q d sl M1 r1)
theorem s_retN : SimS np fRetN dRetN := fun c hc Dd fs sl M r q => q .non sl M r
theorem s_ifS (ht : SimT ta ua) (h1 : SimS np s1 t1) (h2 : SimS np s2 t2) : SimS np (fIfS ta s1 s2) (dIfS ua t1 t2) := by
  intro c hc Dd fs sl M r q
  refine ht c fs sl M _ _ r (poB_st q fun b fs1 e q M1 r1 => ?_)
  cases b with
  | true => rw [if_pos rfl]; exact h1 c hc Dd fs1 sl M1 r1 q
  | false => rw [if_neg Bool.false_ne_true]; exact h2 c hc Dd fs1 sl M1 r1 q
/-! ### for -/
def forL (tg : FG) (body : FS) : List D → Sl → O
  | [], s => .nx s
  | x :: xs, s => match tg x s with
    | some s => (match body s with
      | .nx s => forL tg body xs s
      | .ct s => forL tg body xs s
      | .bk s => .nx s
      | o => o)
    | none => .bad
@[simp] theorem forL_nil (tg : FG) (body : FS) (s : Sl) : forL tg body [] s = .nx s := rfl
@[simp] def fFor (it : FI) (tg : FG) (body : FS) (s : Sl) : O := (it s).thn fun xs s => forL tg body xs s
structure ItOk1 (c : Cz) (it : Itm) (xs : List D) : Prop where
  n : it.n = xs.length
  at_ : ∀ i (h : i < xs.length), it.at_ i = xs[i]
  gd : ∀ fs sl M, Rel c fs sl M → it.gd M
theorem ItOk.one {it : Itm} {xs : List D} (h : ItOk it xs) (c : Cz) : ItOk1 c it xs := ⟨h.n, h.at_, fun _ _ M _ => h.gd M⟩
theorem for_core {tg : FG} {dg : DG} {vs : List Nat} (hg : SimG vs tg dg) (hb : SimS np s1 t1) {c : Cz} (hc : c.np = np) {it : Itm} {xs : List D} (ok : ItOk1 c it xs) {Dd : DEnds} {fs1 : Sl} {sl : Slots} {M1 : Mem} (r1 : Rel c fs1 sl M1) (q : PoS c Dd (forL tg s1 xs fs1)) :
    ∃ W : Nat → Slots → Mem → Prop, W 0 sl M1 ∧ (∀ i sl M, i ≤ it.n → W i sl M → it.gd M) ∧
  (∀ i sl M, i < it.n → W i sl M → dg (it.at_ i) sl M fun sl2 M2 => t1 { Dd with nx := W (i + 1), ct := W (i + 1), bk := Dd.nx } sl2 M2) ∧ ∀ sl M, W it.n sl M → Dd.nx sl M := by
  refine ⟨fun j sl' M' => ∃ fs', Rel c fs' sl' M' ∧ PoS c Dd (forL tg s1 (xs.drop j) fs'), ⟨fs1, r1, q⟩, fun _ sl M _ w => ?_, fun j sl' M' hj w => ?_, fun sl' M' w => ?_⟩
  · obtain ⟨fs', r', _⟩ := w
    exact ok.gd fs' sl M r'
  · obtain ⟨fs', r', q'⟩ := w
    have hj' : j < xs.length := by rw [← ok.n]; exact hj
    rw [List.drop_eq_getElem_cons hj'] at q'
    unfold forL at q'
    rw [ok.at_ j hj']
    cases eg : tg xs[j] fs' with
    | none => rw [eg] at q'; exact q'.elim
    | some fs2 =>
      rw [eg] at q'
      dsimp only at q'
      refine hg c fs' fs2 sl' M' _ _ r' eg fun sl2 k r2 => ?_
      refine hb c hc _ fs2 sl2 M' r2 ?_
      cases eb : s1 fs2 with
      | nx fs3 => rw [eb] at q'; exact fun sl3 M3 r3 => ⟨fs3, r3, q'⟩
      | ct fs3 => rw [eb] at q'; exact fun sl3 M3 r3 => ⟨fs3, r3, q'⟩
      | bk fs3 => rw [eb] at q'; exact q'
      | rt w fs3 => rw [eb] at q'; exact q'
      | ex cl g fs3 => rw [eb] at q'; exact q'
      | bad => rw [eb] at q'; exact q'
  · obtain ⟨fs', r', q'⟩ := w
    rw [ok.n, List.drop_length] at q'
    exact q' sl' M' r'
theorem s_for {tg : FG} {dg : DG} {vs : List Nat} (hi : SimI fi di) (hg : SimG vs tg dg) (hb : SimS np s1 t1) : SimS np (fFor fi tg s1) (dFor di dg t1) := by
  intro c hc Dd fs sl M r q
  exact hi c fs sl M _ _ r (poI_st q fun xs fs1 e q it M1 r1 ok => for_core hg hb hc (ok.one c) r1 q)
/-! ### while -/
def whL (t : FT) (body : FS) : Nat → Sl → O
  | 0, _ => .bad
  | n + 1, s => (t s).thn fun c s => if c = true then (match body s with
      | .nx s => whL t body n s
      | .ct s => whL t body n s
      | .bk s => .nx s
      | o => o) else .nx s
open Classical in
noncomputable def fWhile (t : FT) (body : FS) (s : Sl) : O := if h : ∃ n, whL t body n s ≠ .bad then whL t body h.choose s else .bad
theorem thn_mono {α : Type} {r : R α} {f g : α → Sl → O} (h : ∀ a s, f a s ≠ .bad → g a s = f a s) : r.thn f ≠ .bad → r.thn g = r.thn f := by
  cases r with
  | ok a s => exact h a s
  | ex c g s => exact fun _ => rfl
  | bad => exact fun _ => rfl
theorem whL_mono {t : FT} {body : FS} : ∀ {n m : Nat} {s : Sl}, n ≤ m → whL t body n s ≠ .bad → whL t body m s = whL t body n s := by
  intro n
  induction n with
  | zero => intro m s _ h; exact absurd rfl h
  | succ n ih =>
    intro m s hm h
    obtain ⟨m, rfl⟩ : ∃ k, m = k + 1 := ⟨m - 1, by omega⟩
    unfold whL at h ⊢
    refine thn_mono (fun c s h => ?_) h
    cases c with
    | true =>
      rw [if_pos rfl] at h ⊢
      rw [if_pos rfl]
      cases eb : body s with
      | nx s' => rw [eb] at h; exact ih (by omega) h
      | ct s' => rw [eb] at h; exact ih (by omega) h
      | _ => rfl
    | false => rfl
theorem fWhile_of {t : FT} {body : FS} {n : Nat} {s : Sl} {o : O} (h : whL t body n s = o) (hb : o ≠ .bad) : fWhile t body s = o := by
  have he : ∃ n, whL t body n s ≠ .bad := ⟨n, by rw [h]; exact hb⟩
  unfold fWhile
  rw [dif_pos he]
  rcases Nat.le_total n he.choose with k | k
  · rw [whL_mono k (by rw [h]; exact hb), h]
  · rw [← h, whL_mono k he.choose_spec]
theorem fWhile_ex {t : FT} {body : FS} {s : Sl} (h : fWhile t body s ≠ .bad) : ∃ n, whL t body n s = fWhile t body s := by
  unfold fWhile at h ⊢
  by_cases he : ∃ n, whL t body n s ≠ .bad
  · rw [dif_pos he] at h ⊢; exact ⟨_, rfl⟩
  · rw [dif_neg he] at h; exact absurd rfl h
theorem s_while (ht : SimT ta ua) (hb : SimS np s1 t1) : SimS np (fWhile ta s1) (dWhile ua t1) := by
  intro c hc Dd fs sl M r q
  have hn : fWhile ta s1 fs ≠ .bad := fun z => by rw [z] at q; exact q
  obtain ⟨n, e⟩ := fWhile_ex hn
  rw [← e] at q
  refine ⟨fun m sl' M' => ∃ fs', Rel c fs' sl' M' ∧ PoS c Dd (whL ta s1 m fs'), ⟨n, fs, r, q⟩, fun m sl' M' w => ?_⟩
  obtain ⟨fs', r', q'⟩ := w
  cases m with
  | zero => exact q'.elim
  | succ m =>
    unfold whL at q'
    refine ht c fs' sl' M' _ _ r' (poB_st q' fun b fs1 e q M1 r1 => ?_)
    cases b with
    | true =>
      rw [if_pos rfl] at q
      rw [if_pos rfl]
      refine hb c hc _ fs1 sl' M1 r1 ?_
      cases eb : s1 fs1 with
      | nx fs3 => rw [eb] at q; exact fun sl3 M3 r3 => ⟨m, Nat.lt_succ_self _, fs3, r3, q⟩
      | ct fs3 => rw [eb] at q; exact fun sl3 M3 r3 => ⟨m, Nat.lt_succ_self _, fs3, r3, q⟩
      | bk fs3 => rw [eb] at q; exact q
      | rt w fs3 => rw [eb] at q; exact q
      | ex cl g fs3 => rw [eb] at q; exact q
      | bad => rw [eb] at q; exact q
    | false => rw [if_neg Bool.false_ne_true] at q ⊢; exact q sl' M1 r1
end
end F

/-! F5: owned objects changed; comprehensions. -/
namespace F
open PySem PySem.Spec L2 OD
/-! ### an owned object of a slot is written -/
theorem Rel.wr {c : Cz} {fs : Sl} {sl : Slots} {M : Mem} (r : Rel c fs sl M) {i : Nat} {sv sv' : Sv} (e : fs[i]? = some (some sv)) {p : Addr} {n n' : N} {k : Nat} (hk : M[k]? = some (p, n)) (hs : sl[i]? = some (some (.ref p)))
    (h2 : Ent c.lk sv' (.ref p) [(p, n')]) (hne : ∀ E, Ent c.lk sv (.ref p) E → keys E = [p]) : Rel c (fs.set i (some sv')) sl (M.set k (p, n')) := by
  obtain ⟨E, r⟩ := r
  obtain ⟨d, hd, ed⟩ := r.slt i sv e
  rw [hs] at hd; cases hd
  have kE : keys (E (i + 1)) = [p] := hne _ ed
  have hkey : keys (M.set k (p, n')) = keys M := keys_set hk
  have kk : keys [(p, n')] = [p] := rfl
  have key : ∀ j, keys (if j = i + 1 then [(p, n')] else E j) = keys (E j) := fun j => by
    by_cases z : j = i + 1
    · rw [if_pos z, z, kE, kk]
    · rw [if_neg z]
  refine ⟨fun j => if j = i + 1 then [(p, n')] else E j, by rw [hkey]; exact r.nd, by rw [List.length_set]; exact r.len, ?_, fun j sv2 e2 => ?_, fun j e2 he => ?_, fun j => by rw [key]; exact r.ndE j, fun j k2 a n ha hb => ?_, fun j hj => ?_, fun j a hj ha => ?_, ?_, fun e2 he => ?_, fun e2 he j => by rw [key]; exact r.lkd e2 he j⟩
  · rw [if_neg (by omega)]; exact r.tmp
  · by_cases z : i = j
    · subst z
      have hl : i < fs.length := (List.getElem?_eq_some_iff.mp e).1
      rw [List.getElem?_set_self hl] at e2
      cases e2
      exact ⟨_, hs, by rw [if_pos rfl]; exact h2⟩
    · rw [List.getElem?_set_ne z] at e2
      obtain ⟨d', g1, g2⟩ := r.slt j sv2 e2
      exact ⟨d', g1, by rw [if_neg (by omega)]; exact g2⟩
  · by_cases z : j = i + 1
    · rw [if_pos z] at he
      simp at he
      rw [he]
      exact List.mem_of_getElem? (List.getElem?_set_self (List.getElem?_eq_some_iff.mp hk).1)
    · rw [if_neg z] at he
      have hm := r.sub j e2 he
      have np : e2.1 ≠ p := fun w => r.dis j (i + 1) p z (List.mem_map.mpr ⟨e2, he, w⟩) (by rw [kE]; simp)
      obtain ⟨t, ht⟩ := List.getElem?_of_mem hm
      have hne : k ≠ t := fun w => by rw [← w, hk] at ht; cases ht; exact np rfl
      exact List.mem_of_getElem? (by rw [List.getElem?_set_ne hne]; exact ht)
  · rw [key] at ha hb; exact r.dis j k2 a n ha hb
  · rcases r.pin j hj with h | h
    · by_cases z : j + 1 = i + 1
      · exact absurd (by rw [← z, h]; rfl : keys (E (i + 1)) = []) (by rw [kE]; simp)
      · exact .inl (by rw [if_neg z]; exact h)
    · exact .inr (by rw [key]; exact h)
  · rw [key] at ha; exact r.frs j a hj ha
  · have hp := r.pre
    unfold Pre at hp ⊢
    rw [List.take_set]
    by_cases z : k < c.M0.length
    · have h3 : (M.take c.M0.length)[k]? = some (p, n) := by rw [List.getElem?_take_of_lt z]; exact hk
      rw [keys_set h3]; exact hp
    · rw [List.set_eq_of_length_le (by rw [List.length_take]; omega)]; exact hp
  · have np : e2.1 ≠ p := fun w => r.lkd e2 he (i + 1) (by rw [kE, w]; simp)
    obtain ⟨t, ht⟩ := List.getElem?_of_mem (r.lks e2 he)
    have hne : k ≠ t := fun w => by rw [← w, hk] at ht; cases ht; exact np rfl
    exact List.mem_of_getElem? (by rw [List.getElem?_set_ne hne]; exact ht)
/-- where the object of a slot stands -/
theorem Rel.lst {c : Cz} {fs : Sl} {sl : Slots} {M : Mem} (r : Rel c fs sl M) {i : Nat} {xs : List D} (e : fs[i]? = some (some (.lst xs))) : ∃ p k, sl[i]? = some (some (.ref p)) ∧ M[k]? = some (p, .lst xs) ∧
    ∀ ys, Rel c (fs.set i (some (.lst ys))) sl (M.set k (p, .lst ys)) := by
  have r0 := r
  obtain ⟨E, r⟩ := r
  obtain ⟨d, hd, p, rfl, ep⟩ := r.slt i _ e
  obtain ⟨k, hk⟩ := List.getElem?_of_mem (r.sub (i + 1) (p, .lst xs) (by rw [ep]; simp))
  refine ⟨p, k, hd, hk, fun ys => r0.wr e hk hd ⟨p, rfl, rfl⟩ fun E ⟨q, h1, h2⟩ => ?_⟩
  cases h1; rw [h2]; rfl
theorem Rel.dic {c : Cz} {fs : Sl} {sl : Slots} {M : Mem} (r : Rel c fs sl M) {i : Nat} {xs : List (Key × D)} (e : fs[i]? = some (some (.dic xs))) : ∃ p k, sl[i]? = some (some (.ref p)) ∧ M[k]? = some (p, .dic xs) ∧
    ∀ ys, Rel c (fs.set i (some (.dic ys))) sl (M.set k (p, .dic ys)) := by
  have r0 := r
  obtain ⟨E, r⟩ := r
  obtain ⟨d, hd, p, rfl, ep⟩ := r.slt i _ e
  obtain ⟨k, hk⟩ := List.getElem?_of_mem (r.sub (i + 1) (p, .dic xs) (by rw [ep]; simp))
  refine ⟨p, k, hd, hk, fun ys => r0.wr e hk hd ⟨p, rfl, rfl⟩ fun E ⟨q, h1, h2⟩ => ?_⟩
  cases h1; rw [h2]; rfl
theorem Rel.ins {c : Cz} {fs : Sl} {sl : Slots} {M : Mem} (r : Rel c fs sl M) {i : Nat} {C : Addr} {xs : List (Str × D)} (e : fs[i]? = some (some (.ins C xs))) : ∃ p k dx, sl[i]? = some (some (.ref p)) ∧ M[k]? = some (p, .ins C dx xs) ∧
    ∀ ys, Rel c (fs.set i (some (.ins C ys))) sl (M.set k (p, .ins C dx ys)) := by
  have r0 := r
  obtain ⟨E, r⟩ := r
  obtain ⟨d, hd, p, dx, rfl, ep⟩ := r.slt i _ e
  obtain ⟨k, hk⟩ := List.getElem?_of_mem (r.sub (i + 1) (p, .ins C dx xs) (by rw [ep]; simp))
  refine ⟨p, k, dx, hd, hk, fun ys => r0.wr (n := .ins C dx xs) e hk hd ⟨p, dx, rfl, rfl⟩ fun E ⟨q, dy, h1, h2⟩ => ?_⟩
  cases h1; rw [h2]; rfl
/-- an owned object of a slot that is no argument's is data from here on -/
theorem Rel.frz {c : Cz} {fs : Sl} {sl : Slots} {M : Mem} (r : Rel c fs sl M) {i : Nat} {sv : Sv} (e : fs[i]? = some (some sv)) {p : Addr} (hs : sl[i]? = some (some (.ref p))) {k : Nat} {n : N} (hk : M[k]? = some (p, n)) (hne : ∀ E, Ent c.lk sv (.ref p) E → keys E = [p]) (hi : c.np ≤ i) (d : D) :
    Rel c (fs.set i (some (.im d))) (sl.set i (some d)) (M.eraseIdx k) := by
  have r1 := (r.set i d)
  obtain ⟨E0, r0⟩ := r
  obtain ⟨d0, hd, ed⟩ := r0.slt i sv e
  rw [hs] at hd; cases hd
  have kE := hne _ ed
  have pM : p ∉ keys c.M0 := r0.frs (i + 1) p (.inr (by omega)) (by rw [kE]; simp)
  have hlen : c.M0.length ≤ k := by
    by_cases z : c.M0.length ≤ k
    · exact z
    · have hp := r0.pre
      unfold Pre at hp
      exfalso
      apply pM
      rw [← hp]
      exact List.mem_map.mpr ⟨(p, n), List.mem_of_getElem? (i := k) (by rw [List.getElem?_take_of_lt (by omega)]; exact hk), rfl⟩
  have e0 : ∀ j, (if j = i + 1 then [] else E0 j) = [] ∨ (j ≠ i + 1 ∧ (if j = i + 1 then [] else E0 j) = E0 j) := fun j => by
    by_cases z : j = i + 1
    · exact .inl (by rw [if_pos z])
    · exact .inr ⟨z, by rw [if_neg z]⟩
  refine ⟨fun j => if j = i + 1 then [] else E0 j, ?_, by rw [List.length_set, List.length_set, r0.len], ?_, fun j sv2 e2 => ?_, fun j e2 he => ?_, fun j => ?_, fun j k2 a n ha hb => ?_, fun j hj => ?_, fun j a hj ha => ?_, ?_, fun e2 he => ?_, fun e2 he j hj => ?_⟩
  · exact r0.nd.sublist ((List.eraseIdx_sublist M k).map _)
  · rw [if_neg (by omega)]; exact r0.tmp
  · by_cases z : i = j
    · subst z
      have hl : i < fs.length := (List.getElem?_eq_some_iff.mp e).1
      rw [List.getElem?_set_self hl] at e2
      cases e2
      exact ⟨d, List.getElem?_set_self (by rw [← r0.len]; exact hl), by rw [if_pos rfl]; exact ⟨rfl, rfl⟩⟩
    · rw [List.getElem?_set_ne z] at e2
      obtain ⟨d', g1, g2⟩ := r0.slt j sv2 e2
      exact ⟨d', by rw [List.getElem?_set_ne z]; exact g1, by rw [if_neg (by omega)]; exact g2⟩
  · rcases e0 j with z | ⟨z1, z⟩ <;> rw [z] at he
    · cases he
    · have hm := r0.sub j e2 he
      have np : e2.1 ≠ p := fun w => r0.dis j (i + 1) p z1 (List.mem_map.mpr ⟨e2, he, w⟩) (by rw [kE]; simp)
      obtain ⟨t, ht⟩ := List.getElem?_of_mem hm
      have hne : k ≠ t := fun w => by rw [← w, hk] at ht; cases ht; exact np rfl
      by_cases w : t < k
      · exact List.mem_of_getElem? (i := t) (by rw [List.getElem?_eraseIdx_of_lt w]; exact ht)
      · exact List.mem_of_getElem? (i := t - 1) (by rw [List.getElem?_eraseIdx_of_ge (by omega), Nat.sub_add_cancel (by omega)]; exact ht)
  · rcases e0 j with z | ⟨z1, z⟩ <;> rw [z]
    · exact List.nodup_nil
    · exact r0.ndE j
  · rcases e0 j with z | ⟨z1, z⟩ <;> rw [z] at ha
    · cases ha
    · rcases e0 k2 with y | ⟨y1, y⟩ <;> rw [y] at hb
      · cases hb
      · exact r0.dis j k2 a n ha hb
  · rcases e0 (j + 1) with z | ⟨z1, z⟩
    · exact .inl z
    · rw [z]; exact r0.pin j hj
  · rcases e0 j with z | ⟨z1, z⟩ <;> rw [z] at ha
    · cases ha
    · exact r0.frs j a hj ha
  · have hp := r0.pre
    unfold Pre at hp ⊢
    rw [List.eraseIdx_eq_take_drop_succ, List.take_append_of_le_length (by rw [List.length_take]; have := (List.getElem?_eq_some_iff.mp hk).1; omega), List.take_take, Nat.min_eq_left hlen]
    exact hp
  · have np : e2.1 ≠ p := fun w => r0.lkd e2 he (i + 1) (by rw [kE, w]; simp)
    obtain ⟨t, ht⟩ := List.getElem?_of_mem (r0.lks e2 he)
    have hne : k ≠ t := fun w => by rw [← w, hk] at ht; cases ht; exact np rfl
    by_cases w : t < k
    · exact List.mem_of_getElem? (i := t) (by rw [List.getElem?_eraseIdx_of_lt w]; exact ht)
    · exact List.mem_of_getElem? (i := t - 1) (by rw [List.getElem?_eraseIdx_of_ge (by omega), Nat.sub_add_cancel (by omega)]; exact ht)
  · rcases e0 j with z | ⟨z1, z⟩ <;> rw [z] at hj
    · cases hj
    · exact r0.lkd e2 he j hj
section
variable {fa fb fc : FE} {oa ob oc : FO} {da db dc : DE} {ta tb : FT} {ua ub : DT} {as : FA} {dr : DA} {fi : FI} {di : DI} {np : Nat} {s1 s2 : FS} {t1 t2 : DS}
def svD : Sv → Option D
  | .lst xs => some (.lst xs)
  | .dic xs => some (.dic xs)
  | .ins C fs => some (.obj C fs)
  | _ => none
/-- where the one object of a slot stands -/
theorem Rel.one {c : Cz} {fs : Sl} {sl : Slots} {M : Mem} (r : Rel c fs sl M) {i : Nat} {sv : Sv} {d : D} (e : fs[i]? = some (some sv)) (hd : svD sv = some d) : ∃ (p : Addr) (k : Nat) (n : N), sl[i]? = some (some (.ref p)) ∧ M[k]? = some (p, n) ∧ n.toD p = d ∧ (∀ E, Ent c.lk sv (.ref p) E → keys E = [p]) := by
  cases sv with
  | lst xs => obtain ⟨p, k, h1, h2, _⟩ := r.lst e; cases hd; exact ⟨p, k, _, h1, h2, rfl, fun E ⟨q, g1, g2⟩ => by cases g1; rw [g2]; rfl⟩
  | dic xs => obtain ⟨p, k, h1, h2, _⟩ := r.dic e; cases hd; exact ⟨p, k, _, h1, h2, rfl, fun E ⟨q, g1, g2⟩ => by cases g1; rw [g2]; rfl⟩
  | ins C xs => obtain ⟨p, k, dx, h1, h2, _⟩ := r.ins e; cases hd; exact ⟨p, k, _, h1, h2, rfl, fun E ⟨q, dy, g1, g2⟩ => by cases g1; rw [g2]; rfl⟩
  | _ => cases hd
/-- return x, x owned: as data -/
@[simp] def fRetZ (i : Nat) (s : Sl) : O := match s[i]? with
  | some (some (.lst xs)) => .rt (.im (.lst xs)) (s.set i (some (.im .non)))
  | some (some (.dic xs)) => .rt (.im (.dic xs)) (s.set i (some (.im .non)))
  | some (some (.ins C xs)) => .rt (.im (.obj C xs)) (s.set i (some (.im .non)))
  | some (some (.im d)) => if isRef d then .bad else .rt (.im d) s
  | _ => .bad
theorem s_retZ {i : Nat} (hi : np ≤ i) : SimS np (fRetZ i) (dRet true (dVar i)) := by
  intro c hc Dd fs sl M r q
  have main : ∀ sv d, fs[i]? = some (some sv) → svD sv = some d → PoS c Dd (.rt (.im d) (fs.set i (some (.im .non)))) → dRet true (dVar i) Dd sl M := fun sv d e hd q => by
    obtain ⟨p, k, n, h1, h2, h3, h4⟩ := r.one e hd
    refine ⟨.ref p, h1, k, n, h2, ?_⟩
    rw [h3]
    exact q d _ _ ((r.frz e h1 h2 h4 (by rw [hc]; exact hi) .non).im d)
  unfold fRetZ at q
  split at q
  · rename_i xs e; exact main _ _ e rfl q
  · rename_i xs e; exact main _ _ e rfl q
  · rename_i C xs e; exact main _ _ e rfl q
  · rename_i d e
    obtain ⟨E, r'⟩ := r
    obtain ⟨y, h1, h2⟩ := r'.slt i _ e
    obtain rfl := h2.1
    split at q
    · exact q.elim
    · rename_i nr
      refine ⟨_, h1, ?_⟩
      have := q _ sl M (RelW.im ⟨E, r'⟩ _)
      cases y <;> first | exact this | exact absurd rfl nr
  · exact q.elim
/-- from here on slot i holds data -/
@[simp] def fFrz (i : Nat) (b : FS) (s : Sl) : O := match s[i]? with
  | some (some (.lst xs)) => b (s.set i (some (.im (.lst xs))))
  | some (some (.dic xs)) => b (s.set i (some (.im (.dic xs))))
  | some (some (.ins C xs)) => b (s.set i (some (.im (.obj C xs))))
  | _ => .bad
theorem s_frz {i : Nat} (hi : np ≤ i) (h : SimS np s1 t1) : SimS np (fFrz i s1) (dFrz i t1) := by
  intro c hc Dd fs sl M r q
  have main : ∀ sv d, fs[i]? = some (some sv) → svD sv = some d → PoS c Dd (s1 (fs.set i (some (.im d)))) → dFrz i t1 Dd sl M := fun sv d e hd q => by
    obtain ⟨p, k, n, h1, h2, h3, h4⟩ := r.one e hd
    refine ⟨p, k, n, h1, h2, ?_⟩
    rw [h3]
    exact h c hc Dd _ _ _ (r.frz e h1 h2 h4 (by rw [hc]; exact hi) d) q
  unfold fFrz at q
  split at q
  · rename_i xs e; exact main _ _ e rfl q
  · rename_i xs e; exact main _ _ e rfl q
  · rename_i C xs e; exact main _ _ e rfl q
  · exact q.elim
/-! ### lists changed -/
@[simp] noncomputable def fApp (i : Nat) (a : FE) (s : Sl) : R Sv := match s[i]? with
  | some (some (.lst _)) => (a s).bind fun w s => imK w fun d => (match s[i]? with
    | some (some (.lst xs)) => cif (xs.length < 16777216) (.ok (.im .non) (s.set i (some (.lst (xs ++ [d]))))) (.bad)
    | _ => .bad)
  | _ => .bad
theorem Rel.imI {c : Cz} {fs : Sl} {sl : Slots} {M : Mem} (r : Rel c fs sl M) (d : D) : RelW c fs sl M (.im d) d := RelW.im r d
theorem s_app {i : Nat} (ha : SimE fa da) : SimE (fApp i fa) (dApp (dVar i) da) := by
  intro c fs sl M ED Q r q
  unfold fApp at q
  split at q
  · rename_i xs0 e0
    obtain ⟨p, k0, h1, h2, _⟩ := r.lst e0
    refine ⟨_, h1, ⟨k0, _, h2⟩, ha c fs sl M ED _ r (poE_cases q fun w fs1 e q d M1 r1 => ?_)⟩
    unfold imK at q
    cases w with
    | im x =>
      obtain rfl := r1.eq
      dsimp only at q
      split at q
      · rename_i xs e1
        obtain ⟨p', k, g1, g2, g3⟩ := r1.rel.lst e1
        rw [h1] at g1; cases g1
        by_cases hz : xs.length < 16777216
        · rw [cif_pos hz] at q
          exact ⟨k, xs, g2, hz, q _ _ ((g3 _).imI _)⟩
        · rw [cif_neg hz] at q; exact q.elim
      · exact q.elim
    | _ => exact q.elim
  · exact q.elim
@[simp] def fPop (i : Nat) (s : Sl) : R Sv := match s[i]? with
  | some (some (.lst xs)) => (match xs[xs.length - 1]? with
    | some d => .ok (.im d) (s.set i (some (.lst xs.dropLast)))
    | none => .bad)
  | _ => .bad
theorem s_pop {i : Nat} : SimE (fPop i) (dMth popF (dVar i) dNil) := by
  intro c fs sl M ED Q r q
  unfold fPop at q
  split at q
  · rename_i xs e
    obtain ⟨p, k, h1, h2, h3⟩ := r.lst e
    refine ⟨_, h1, ⟨k, _, h2⟩, k, xs, h2, ?_⟩
    split at q
    · rename_i d ed
      exact ⟨d, ed, q d _ ((h3 _).imI d)⟩
    · exact q.elim
  · exact q.elim
@[simp] def mthF (f : List D → List D → Option (List D × D)) (i : Nat) (as : FL) (s : Sl) : R Sv := match s[i]? with
  | some (some (.lst _)) => (as s).bind fun gs s => (match s[i]?, late gs s with
    | some (some (.lst xs)), some ws => (match f xs ws with
      | some (ys, d) => .ok (.im d) (s.set i (some (.lst ys)))
      | none => .bad)
    | _, _ => .bad)
  | _ => .bad
theorem s_mth {i : Nat} {f : List D → List D → Option (List D × D)} {rf : List D → List D → (List D → Mem) → DK → Prop} {fl : FL} (hf : ∀ xs ws ys d wr Q, f xs ws = some (ys, d) → Q d (wr ys) → rf xs ws wr Q) (hr : SimL fl dr) : SimE (mthF f i fl) (dMth rf (dVar i) dr) := by
  intro c fs sl M ED Q r q
  unfold mthF at q
  split at q
  · rename_i xs0 e0
    obtain ⟨p, k0, h1, h2, _⟩ := r.lst e0
    refine ⟨_, h1, ⟨k0, _, h2⟩, hr c fs sl M ED _ r ?_⟩
    cases e : fl fs with
    | ok gs fs1 =>
      rw [e, ok_bind] at q
      intro xs M1 r1 l1
      split at q
      · rename_i ys ws e1 e2
        obtain ⟨p', k, g1, g2, g3⟩ := r1.lst e1
        rw [h1] at g1; cases g1
        refine ⟨k, ys, g2, l1 fs1 M1 ws _ r1 e2 ?_⟩
        split at q
        · rename_i zs d ef
          exact hf _ _ _ _ _ _ ef (q d _ ((g3 _).imI d))
        · exact q.elim
      · exact q.elim
    | ex cl f' fs' => rw [e] at q; exact q
    | bad => rw [e] at q; exact q.elim
  · exact q.elim
@[simp] noncomputable def extFF (xs : List D) : List D → Option (List D × D)
  | [.lst ys] => cif (xs.length + ys.length ≤ 16777216) (some (xs ++ ys, .non)) (none)
  | [.tup ys] => cif (xs.length + ys.length ≤ 16777216) (some (xs ++ ys, .non)) (none)
  | _ => none
theorem extFF_ok : ∀ xs ws ys d wr Q, extFF xs ws = some (ys, d) → Q d (wr ys) → extF xs ws wr Q := by
  intro xs ws ys d wr Q h q
  unfold extFF at h
  split at h
  · obtain ⟨hz, e⟩ := cif_inv h; cases e; exact ⟨hz, q⟩
  · obtain ⟨hz, e⟩ := cif_inv h; cases e; exact ⟨hz, q⟩
  · cases h
@[simp] noncomputable def popAtFF (xs : List D) : List D → Option (List D × D)
  | [.int i] => cif (-9223372036854775808 ≤ i ∧ i < 9223372036854775808) (match seqIndex? i xs.length with
    | some k => (match xs[k]? with | some d => some (xs.eraseIdx k, d) | none => none)
    | none => none) none
  | _ => none
theorem popAtFF_ok : ∀ xs ws ys d wr Q, popAtFF xs ws = some (ys, d) → Q d (wr ys) → popAtF xs ws wr Q := by
  intro xs ws ys d wr Q h q
  unfold popAtFF at h
  split at h
  · rename_i i
    by_cases hz : -9223372036854775808 ≤ i ∧ i < 9223372036854775808
    · rw [cif_pos hz] at h
      cases e : seqIndex? i xs.length with
      | none => rw [e] at h; cases h
      | some k =>
        rw [e] at h
        dsimp only at h
        cases e2 : xs[k]? with
        | none => rw [e2] at h; cases h
        | some x =>
          rw [e2] at h; cases h
          exact ⟨by have := hz.1; omega, by have := hz.2; omega, k, d, e, e2, q⟩
    · rw [cif_neg hz] at h; cases h
  · cases h
end
end F

/-! F6: defs and their calls. -/
namespace F
open PySem PySem.Spec L2 OD
/-- what a def comes to: a value, and what its arguments then are -/
inductive Rs where
  | ok (w : Sv) (outs : List Sv) | ex (c : Value) (f : Option (List (Str × D))) (outs : List Sv) | bad
abbrev FF := List Sv → Rs
/-- arguments, what they are in data, what they own -/
inductive Ents : List Sv → List D → List Mem → Prop
  | nil : Ents [] [] []
  | cons {sv : Sv} {d : D} {E : Mem} {svs : List Sv} {ds : List D} {Es : List Mem} : Ent lk0 sv d E → Ents svs ds Es → Ents (sv :: svs) (d :: ds) (E :: Es)
def fdF (x : Bool) (np : Nat) (ff : FF) : FD := fun ds M ED Q => ∃ args Es, args.length = np ∧ Ents args ds Es ∧ M = Es.flatten ∧ (match ff args with
  | .ok w outs => ∀ d Ew Es', Ents outs ds Es' → Es'.map keys = Es.map keys → Ent lk0 w d Ew → Q d (Es'.flatten ++ Ew)
  | .ex c f outs => x = true ∧ ∀ Es', Ents outs ds Es' → Es'.map keys = Es.map keys → ED c f Es'.flatten
  | .bad => False)
theorem Ents.len {args : List Sv} {ds : List D} {Es : List Mem} (h : Ents args ds Es) : ds.length = args.length ∧ Es.length = args.length := by
  induction h with
  | nil => exact ⟨rfl, rfl⟩
  | cons _ _ ih => exact ⟨by rw [List.length_cons, List.length_cons, ih.1], by rw [List.length_cons, List.length_cons, ih.2]⟩
theorem fdF_len {x : Bool} {np : Nat} {ff : FF} : ∀ ds M ED QD, fdF x np ff ds M ED QD → ds.length = np := fun ds M ED QD ⟨args, Es, h, e, _⟩ => by rw [e.len.1, h]
theorem Ents.get {args : List Sv} {ds : List D} {Es : List Mem} (h : Ents args ds Es) {i : Nat} {sv : Sv} (e : args[i]? = some sv) : ∃ d E, ds[i]? = some d ∧ Es[i]? = some E ∧ Ent lk0 sv d E := by
  induction h generalizing i with
  | nil => cases e
  | cons a b ih =>
    cases i with
    | zero => cases e; exact ⟨_, _, rfl, rfl, a⟩
    | succ i => exact ih e
theorem keys_flatten : ∀ Es : List Mem, keys Es.flatten = (Es.map keys).flatten := by
  intro Es
  induction Es with
  | nil => rfl
  | cons E Es ih => rw [List.flatten_cons, keys_append, ih, List.map_cons, List.flatten_cons]
/-! ### a def is run -/
def outOf (args : List Sv) (s : Sl) : Option (List Sv) := match args, s with
  | [], _ => some []
  | a :: as, o :: s => (match outOf as s with
    | some os => if owned a = true then (match o with | some sv => if owned sv = true then some (sv :: os) else none | none => none) else some (a :: os)
    | none => none)
  | _ :: _, [] => none
def isPot : Sv → Bool
  | .pot _ => true
  | _ => false
def rsOf (args : List Sv) (o : O) : Rs := match o with
  | .nx s => (match outOf args s with | some os => .ok (.im .non) os | none => .bad)
  | .rt w s => if isPot w = true then .bad else (match outOf args s with | some os => .ok w os | none => .bad)
  | .ex c f s => (match outOf args s with | some os => .ex c f os | none => .bad)
  | _ => .bad
def fDef (np nl : Nat) (body : FS) : FF := fun args => if args.length = np then rsOf args (body (args.map some ++ List.replicate nl none)) else .bad
theorem ent_owned {lk : Lk} {sv : Sv} {d : D} {E : Mem} (h : Ent lk sv d E) (o : owned sv = true) : E ≠ [] := by
  cases sv with
  | im _ => cases o
  | lst _ => obtain ⟨p, _, e⟩ := h; rw [e]; simp
  | dic _ => obtain ⟨p, _, e⟩ := h; rw [e]; simp
  | ins _ _ => obtain ⟨p, _, _, e⟩ := h; rw [e]; simp
  | pot _ => obtain ⟨p, g, s, _, e, _⟩ := h; rw [e]; simp [Once.potM]
  | lok _ _ => cases o
  | dct _ => obtain ⟨p, _, e⟩ := h; rw [e]; simp
theorem ent_im {lk : Lk} {sv : Sv} {d : D} {E : Mem} (h : Ent lk sv d E) (o : owned sv = false) : E = [] := by
  cases sv with
  | im _ => exact h.2
  | lok _ _ => exact h.1
  | _ => cases o
theorem ent_last {lk : Lk} {sv : Sv} {d : D} {E : Mem} (h : Ent lk sv d E) (o : owned sv = true) : ∃ p, d = .ref p ∧ (keys E).getLast? = some p := by
  cases sv with
  | im _ => cases o
  | lst _ => obtain ⟨p, e1, e⟩ := h; exact ⟨p, e1, by rw [e]; rfl⟩
  | dic _ => obtain ⟨p, e1, e⟩ := h; exact ⟨p, e1, by rw [e]; rfl⟩
  | ins _ _ => obtain ⟨p, _, e1, e⟩ := h; exact ⟨p, e1, by rw [e]; rfl⟩
  | pot _ => obtain ⟨p, g, s, e1, e, _⟩ := h; exact ⟨p, e1, by rw [e]; rfl⟩
  | lok _ _ => cases o
  | dct _ => obtain ⟨p, e1, e⟩ := h; exact ⟨p, e1, by rw [e]; rfl⟩
theorem ent_det {sv sv' : Sv} {d d' : D} {E E' : Mem} (h : Ent lk0 sv d E) (h' : Ent lk0 sv' d' E') (o : owned sv = true) (o' : owned sv' = true) (k : keys E = keys E') : d = d' := by
  obtain ⟨p, e1, e2⟩ := ent_last h o
  obtain ⟨q, f1, f2⟩ := ent_last h' o'
  rw [k, f2] at e2
  cases e2
  rw [e1, f1]
theorem ent_nd {lk : Lk} {sv : Sv} {d : D} {E : Mem} (h : Ent lk sv d E) : (keys E).Nodup := by
  cases sv with
  | im _ => rw [h.2]; exact List.nodup_nil
  | lst _ => obtain ⟨p, e1, e⟩ := h; rw [e]; simp [keys]
  | dic _ => obtain ⟨p, e1, e⟩ := h; rw [e]; simp [keys]
  | ins _ _ => obtain ⟨p, _, e1, e⟩ := h; rw [e]; simp [keys]
  | pot _ => obtain ⟨p, g, s, e1, e, n⟩ := h; exact n
  | lok _ _ => rw [h.1]; exact List.nodup_nil
  | dct _ => obtain ⟨p, e1, e⟩ := h; rw [e]; simp [keys]
/-- what the arguments are behind a run -/
theorem out_ok {fs : Sl} {sl : Slots} {E : Nat → Mem} {ks : Nat → List Addr} (slt : ∀ i sv, fs[i]? = some (some sv) → ∃ d, sl[i]? = some (some d) ∧ Ent lk0 sv d (E (i + 1))) :
    ∀ {args : List Sv} {ds : List D} {Es : List Mem} {outs : List Sv} (k : Nat), Ents args ds Es → outOf args (fs.drop k) = some outs → (∀ i, i < args.length → E (k + i + 1) = [] ∨ keys (E (k + i + 1)) = keys (Es.getD i [])) →
      ∃ Es', Ents outs ds Es' ∧ Es'.map keys = Es.map keys ∧ ∀ e ∈ Es'.flatten, ∃ i, e ∈ E (i + 1) := by
  intro args
  induction args with
  | nil =>
    intro ds Es outs k h e hk
    cases h
    unfold outOf at e
    cases e
    exact ⟨[], .nil, rfl, fun e h => by cases h⟩
  | cons a as ih =>
    intro ds Es outs k h e hk
    cases h with
    | cons h1 h2 =>
      rename_i d E1 ds Es
      cases hd : fs.drop k with
      | nil => rw [hd] at e; unfold outOf at e; cases e
      | cons o s =>
        have hd2 : s = fs.drop (k + 1) := by
          have := congrArg List.tail hd
          rw [List.tail_drop] at this
          exact this.symm
        have ho : fs[k]? = some o := by
          have := congrArg (fun l => l[0]?) hd
          simpa using this
        rw [hd] at e
        unfold outOf at e
        cases e1 : outOf as s with
        | none => rw [e1] at e; cases e
        | some os =>
          rw [e1] at e
          dsimp only at e
          rw [hd2] at e1
          obtain ⟨Es', g1, g2, g3⟩ := ih (k + 1) h2 e1 fun i hi => by
            have := hk (i + 1) (by simp; omega)
            rw [show k + (i + 1) + 1 = k + 1 + i + 1 by omega] at this
            exact this
          by_cases oa : owned a = true
          · rw [if_pos oa] at e
            cases o with
            | none => cases e
            | some sv =>
              dsimp only at e
              by_cases ov : owned sv = true
              · rw [if_pos ov] at e
                cases e
                obtain ⟨d', q1, q2⟩ := slt k sv ho
                have kk : keys (E (k + 1)) = keys E1 := by
                  rcases hk 0 (by simp) with z | z
                  · exact absurd z (ent_owned q2 ov)
                  · exact z
                have dd := ent_det q2 h1 ov oa kk
                subst dd
                refine ⟨E (k + 1) :: Es', .cons q2 g1, by rw [List.map_cons, List.map_cons, g2, kk], fun e he => ?_⟩
                rw [List.flatten_cons] at he
                rcases List.mem_append.mp he with he | he
                · exact ⟨k, he⟩
                · exact g3 e he
              · rw [if_neg ov] at e; cases e
          · rw [if_neg oa] at e
            cases e
            have e0 := ent_im h1 (by simpa using oa)
            refine ⟨E1 :: Es', .cons h1 g1, by rw [List.map_cons, List.map_cons, g2], fun e he => ?_⟩
            rw [e0] at he
            exact g3 e (by simpa using he)
/-- one list within another one of unlike keys, with the keys of its front -/
theorem take_eq {A M : Mem} (nd : (keys M).Nodup) (hk : keys (M.take A.length) = keys A) (hs : ∀ e ∈ A, e ∈ M) : M.take A.length = A := by
  refine List.ext_getElem? fun i => ?_
  have hl : (M.take A.length).length = A.length := by
    have := congrArg List.length hk
    unfold keys at this
    rwa [List.length_map, List.length_map] at this
  by_cases hi : i < A.length
  · have h1 : A[i]? = some A[i] := List.getElem?_eq_getElem hi
    have h2 : (M.take A.length)[i]? = some (M.take A.length)[i] := List.getElem?_eq_getElem (by omega)
    have h3 : (keys (M.take A.length))[i]? = some (M.take A.length)[i].1 := by unfold keys; rw [List.getElem?_map, h2]; rfl
    have h4 : (keys A)[i]? = some A[i].1 := by unfold keys; rw [List.getElem?_map, h1]; rfl
    rw [hk, h4] at h3
    have h5 : A[i].1 = (M.take A.length)[i].1 := Option.some.inj h3
    obtain ⟨t, ht⟩ := List.getElem?_of_mem (hs _ (List.getElem_mem hi))
    have h6 : M[i]? = some (M.take A.length)[i] := by rw [List.getElem?_take_of_lt hi] at h2; exact h2
    have h7 := key_ix nd ht h6 h5
    subst h7
    rw [h6] at ht
    rw [h1, h2]
    exact ht
  · rw [List.getElem?_eq_none (by omega), List.getElem?_eq_none (by omega)]
theorem sub_one {M : Mem} {E : Mem} {n : Nat} (h1 : E.length ≤ 1) (h : ∀ e ∈ E, e ∈ M.drop n) : E.Sublist (M.drop n) := by
  cases E with
  | nil => exact List.nil_sublist _
  | cons e r =>
    cases r with
    | nil => exact List.singleton_sublist.mpr (h e (by simp))
    | cons _ _ => simp at h1
theorem ent_one {lk : Lk} {w : Sv} {d : D} {E : Mem} (h : Ent lk w d E) (hp : isPot w = false) : E.length ≤ 1 := by
  cases w with
  | im _ => rw [h.2]; simp
  | lst _ => obtain ⟨p, _, e⟩ := h; rw [e]; simp
  | dic _ => obtain ⟨p, _, e⟩ := h; rw [e]; simp
  | ins _ _ => obtain ⟨p, _, _, e⟩ := h; rw [e]; simp
  | pot _ => cases hp
  | lok _ _ => rw [h.1]; simp
  | dct _ => obtain ⟨p, _, e⟩ := h; rw [e]; simp
/-- the memory at the end of a def -/
theorem end_ok {args : List Sv} {ds : List D} {Es : List Mem} (ha : Ents args ds Es) {fs : Sl} {sl : Slots} {M : Mem} {w : Sv} {d : D} {outs : List Sv}
    (r : RelW ⟨args.length, Es.flatten, fun i => keys (Es.getD i []), lk0⟩ fs sl M w d) (ho : outOf args fs = some outs) (hp : isPot w = false) :
    ∃ Ew Es', Ents outs ds Es' ∧ Es'.map keys = Es.map keys ∧ Ent lk0 w d Ew ∧ (Es'.flatten ++ Ew).Sublist M ∧ Pre Es.flatten (Es'.flatten ++ Ew) := by
  obtain ⟨E, r⟩ := r
  obtain ⟨Es', g1, g2, g3⟩ := out_ok (ks := fun i => keys (Es.getD i [])) (k := 0) r.slt ha (by simpa using ho) fun i hi => by
    rw [Nat.zero_add]; exact r.pin i hi
  have kf : keys Es'.flatten = keys Es.flatten := by rw [keys_flatten, keys_flatten, g2]
  have kl : Es'.flatten.length = Es.flatten.length := by
    have := congrArg List.length kf
    unfold keys at this
    rwa [List.length_map, List.length_map] at this
  have tk : M.take Es'.flatten.length = Es'.flatten := take_eq r.nd (by rw [kl, kf]; exact r.pre) fun e he => by
    obtain ⟨i, hi⟩ := g3 e he
    exact r.sub _ e hi
  refine ⟨E 0, Es', g1, g2, r.tmp, ?_, ?_⟩
  · have h2 : M = Es'.flatten ++ M.drop Es'.flatten.length := by
      conv => lhs; rw [← List.take_append_drop Es'.flatten.length M, tk]
    rw [h2]
    refine List.Sublist.append (List.Sublist.refl _) (sub_one (ent_one r.tmp hp) fun e he => ?_)
    have hm := r.sub 0 e he
    rw [h2] at hm
    rcases List.mem_append.mp hm with hm | hm
    · refine absurd ?_ (r.frs 0 e.1 (.inl rfl) (List.mem_map.mpr ⟨e, he, rfl⟩))
      show e.1 ∈ keys Es.flatten
      rw [← kf]
      exact List.mem_map.mpr ⟨e, hm, rfl⟩
    · exact hm
  · unfold Pre
    rw [← kl, List.take_append_of_le_length (Nat.le_refl _), List.take_length, kf]
theorem start_rel {args : List Sv} {ds : List D} {Es : List Mem} (h : Ents args ds Es) (nd : (keys Es.flatten).Nodup) {N : List Str} {nl : Nat} (hn : N.length = args.length + nl) :
    Rel ⟨args.length, Es.flatten, fun i => keys (Es.getD i []), lk0⟩ (args.map some ++ List.replicate nl none) (startD N ds) Es.flatten := by
  have hl := h.len
  have ge : ∀ i, Es.getD i [] = [] ∨ ∃ E, Es[i]? = some E ∧ Es.getD i [] = E := fun i => by
    rw [List.getD_eq_getElem?_getD]
    cases e : Es[i]? with
    | none => exact .inl rfl
    | some E => exact .inr ⟨E, rfl, rfl⟩
  have dj : ∀ (Es : List Mem) (i j : Nat) (A B : Mem) (a : Addr), (keys Es.flatten).Nodup → i < j → Es[i]? = some A → Es[j]? = some B → a ∈ keys A → a ∈ keys B → False := by
    intro Es
    induction Es with
    | nil => intro i j A B a _ _ e; cases e
    | cons E Es ih =>
      intro i j A B a nd hij e1 e2 ha hb
      rw [List.flatten_cons, keys_append] at nd
      obtain ⟨n1, n2, n3⟩ := List.nodup_append.mp nd
      cases j with
      | zero => omega
      | succ j =>
        have e2' : Es[j]? = some B := e2
        cases i with
        | zero =>
          cases e1
          refine n3 a ha a ?_ rfl
          rw [keys_flatten]
          exact List.mem_flatten.mpr ⟨keys B, List.mem_map.mpr ⟨B, List.mem_of_getElem? e2', rfl⟩, hb⟩
        | succ i => exact ih i j A B a n2 (by omega) e1 e2' ha hb
  refine ⟨fun i => match i with | 0 => [] | i + 1 => Es.getD i [], nd, ?_, ⟨rfl, rfl⟩, fun i sv e => ?_, fun i e he => ?_, fun i => ?_, fun i j a n ha hb => ?_, fun i hi => .inr rfl, fun i a hi ha => ?_, ?_, fun e he => (nomatch he), fun e he => (nomatch he)⟩
  · unfold startD
    rw [List.length_append, List.length_append, List.length_map, List.length_map, List.length_replicate, List.length_replicate, hl.1, hn]
    omega
  · have hi : i < args.length := by
      by_cases z : i < args.length
      · exact z
      · rw [List.getElem?_append_right (by simpa using z), List.getElem?_replicate] at e
        split at e <;> cases e
    rw [List.getElem?_append_left (by simpa using hi), List.getElem?_map] at e
    cases ea : args[i]? with
    | none => rw [ea] at e; cases e
    | some sv' =>
      rw [ea] at e
      cases e
      obtain ⟨d, E, h1, h2, h3⟩ := h.get ea
      refine ⟨d, ?_, ?_⟩
      · unfold startD
        rw [List.getElem?_append_left (by simp [hl.1]; exact hi), List.getElem?_map, h1]
        rfl
      · show Ent lk0 sv d (Es.getD i [])
        rw [List.getD_eq_getElem?_getD, h2]
        exact h3
  · cases i with
    | zero => cases he
    | succ i =>
      rcases ge i with z | ⟨E, z1, z2⟩
      · replace he : e ∈ Es.getD i [] := he
        rw [z] at he; cases he
      · replace he : e ∈ Es.getD i [] := he
        rw [z2] at he
        exact List.mem_flatten.mpr ⟨E, List.mem_of_getElem? z1, he⟩
  · cases i with
    | zero => exact List.nodup_nil
    | succ i =>
      show (keys (Es.getD i [])).Nodup
      rcases ge i with z | ⟨E, z1, z2⟩
      · rw [z]; exact List.nodup_nil
      · rw [z2]
        rw [keys_flatten] at nd
        exact nd.sublist (List.sublist_flatten_of_mem (List.mem_map.mpr ⟨E, List.mem_of_getElem? z1, rfl⟩))
  · cases i with
    | zero => cases ha
    | succ i =>
      cases j with
      | zero => cases hb
      | succ j =>
        replace ha : a ∈ keys (Es.getD i []) := ha
        replace hb : a ∈ keys (Es.getD j []) := hb
        rcases ge i with z | ⟨A, z1, z2⟩
        · rw [z] at ha; cases ha
        · rcases ge j with y | ⟨B, y1, y2⟩
          · rw [y] at hb; cases hb
          · rw [z2] at ha; rw [y2] at hb
            rcases Nat.lt_or_ge i j with k | k
            · exact dj Es i j A B a nd k z1 y1 ha hb
            · exact dj Es j i B A a nd (by omega) y1 z1 hb ha
  · cases i with
    | zero => cases ha
    | succ i =>
      replace ha : a ∈ keys (Es.getD i []) := ha
      have hi : args.length ≤ i := by
        rcases hi with z | z
        · cases z
        · replace z : args.length < i + 1 := z
          omega
      rw [List.getD_eq_getElem?_getD, List.getElem?_eq_none (by rw [hl.2]; exact hi)] at ha
      cases ha
  · show keys (Es.flatten.take Es.flatten.length) = _
    rw [List.take_length]
/-- THE RULE: a def is its function -/
theorem run_ok {x : Bool} {np nl : Nat} {N : List Str} {body : FS} {td : DS} (hn : N.length = np + nl) (hs : SimS np body td) {ds : List D} {M : Mem} {ED : XD} {QD : DK} {Dd : DEnds} (nd : (keys M).Nodup) (h : fdF x np (fDef np nl body) ds M ED QD)
    (d1 : Dd.nx = fun _ M' => Out M QD .non M') (d2 : Dd.rt = Out M QD) (d3 : x = true → Dd.ex = fun _ c f M' => ∃ M'', M''.Sublist M' ∧ Pre M M'' ∧ ED c f M'') : td Dd (startD N ds) M := by
  obtain ⟨args, Es, ha, he, rfl, h⟩ := h
  subst ha
  unfold fDef at h
  rw [if_pos rfl] at h
  refine hs ⟨args.length, Es.flatten, fun i => keys (Es.getD i []), lk0⟩ rfl _ (args.map some ++ List.replicate nl none) _ _ (start_rel he nd hn) ?_
  cases e : body (args.map some ++ List.replicate nl none) with
  | nx fs =>
    rw [e] at h
    unfold rsOf at h
    dsimp only at h
    cases eo : outOf args fs with
    | none => rw [eo] at h; exact h.elim
    | some outs =>
      rw [eo] at h
      intro sl M r
      obtain ⟨Ew, Es', g1, g2, g3, g4, g5⟩ := end_ok he r eo rfl
      rw [d1]
      exact ⟨_, g4, g5, h _ _ _ g1 g2 g3⟩
  | rt w fs =>
    rw [e] at h
    unfold rsOf at h
    dsimp only at h
    cases hp : isPot w with
    | true => rw [hp, if_pos rfl] at h; exact h.elim
    | false =>
      rw [hp, if_neg Bool.false_ne_true] at h
      cases eo : outOf args fs with
      | none => rw [eo] at h; exact h.elim
      | some outs =>
        rw [eo] at h
        intro d sl M r
        obtain ⟨Ew, Es', g1, g2, g3, g4, g5⟩ := end_ok he r eo hp
        rw [d2]
        exact ⟨_, g4, g5, h _ _ _ g1 g2 g3⟩
  | bk fs => rw [e] at h; exact h.elim
  | ct fs => rw [e] at h; exact h.elim
  | ex c f fs =>
    rw [e] at h
    unfold rsOf at h
    dsimp only at h
    cases eo : outOf args fs with
    | none => rw [eo] at h; exact h.elim
    | some outs =>
      rw [eo] at h
      intro sl M r
      obtain ⟨Ew, Es', g1, g2, g3, g4, g5⟩ := end_ok he r eo rfl
      rw [g3.2, List.append_nil] at g4 g5
      obtain ⟨h0, h⟩ := h
      rw [d3 h0]
      exact ⟨_, g4, g5, h _ g1 g2⟩
  | bad => rw [e] at h; exact h.elim
end F

/-! F7: calls of defs. -/
namespace OD
open PySem PySem.Spec L2
/-- a call of a def that lets nothing out: which objects it is handed is told when the reading is shown -/
def dCallN (F : FD) (dr : DA) : DE := fun sl M ED Q => dr sl M ED fun ds M1 => ∃ ks : List Nat, ks.Nodup ∧ (sel ks M1).length = ks.length ∧ F ds (sel ks M1) (fun _ _ _ => False) fun d Mc => (keys (putM ks M1 Mc)).Nodup → Q d (putM ks M1 Mc)
section
variable {X : Cx} {E : L2.St → XK} {K : PySem.W.Frag} {a : Expr} {es : List Expr} {pos p : Pos} {dr : DA} {F : FD} {x : Str} {ps : List Str} {k : Nat}
theorem sim_callN {t : TA} (s : OD.SimA K E t dr) : OD.SimE K E (tCall (spD K F) [] E0 t) (dCallN F dr) := by
  intro S0 sl M σ H Q QD ED k xl hd l
  refine s S0 sl M σ H _ _ ED k xl hd fun ds M1 vs H1 m1 x1 r1 q1 => ?_
  obtain ⟨ks, hk, hl, q⟩ := q1
  rw [List.append_nil]
  refine ⟨mk0 S0 ks M1, ds, sel ks M1, _, _, m1.sel hk, by rw [mk0_sm]; exact r1, q, fun d M' v H' m' x' pr r' q' => ?_, fun cls fs M' dd H' m' x' pr r' q' => q'.elim⟩
  obtain ⟨g1, g2, g3⟩ := put_back m1 hk hl m' x' pr
  exact l d _ v H' g1 (x1.trans g2) (by rw [g3]; exact r') (q' g1.nd)
theorem de_callN (c : DefOk X.prog X.w X.K X.mg X.base k x ps F) (hr : Room k X.A) (ha : DAx X E (a :: es) dr) (hg : Gl X x := by rfl) (hdb : (x == ("__debug__" : Str)) = false := by decide)
    (he : starEach (a :: es) X.env = (false, eval a X.env) :: starEach es X.env := by rfl) (hpl : (backTo pos (starEach es X.env)).any (·.1) = false := by rfl) : DEx X E (.Call (.Name x p) (a :: es) [] pos) (dCallN F dr) := by
  obtain ⟨f, fd, m, kp, b, G⟩ := c
  obtain ⟨t, pa, s⟩ := ha
  exact ⟨_, pe_call G hr hg m kp b .nil pass0 pa hdb he hpl, sim_callN s⟩
theorem de_callN0 (c : DefOk X.prog X.w X.K X.mg X.base k x ps F) (hr : Room k X.A) (hg : Gl X x := by rfl) (hdb : (x == ("__debug__" : Str)) = false := by decide) : DEx X E (.Call (.Name x p) [] [] pos) (dCallN F dNil) := by
  obtain ⟨f, fd, m, kp, b, G⟩ := c
  exact ⟨_, pe_call0 G hr hg m kp b .nil pass0 hdb, sim_callN fun S0 sl M σ H Q QD ED k xl hd l => l _ _ _ _ k.mem (.refl _ _) .nil hd⟩
end
end OD
namespace F
open PySem PySem.Spec L2 OD
def fdN (np : Nat) (ff : FF) : FD := fun ds M ED Q => (keys M).Nodup ∧ fdF false np ff ds M ED Q
theorem fdN_len {np : Nat} {ff : FF} : ∀ ds M ED QD, fdN np ff ds M ED QD → ds.length = np := fun ds M ED QD h => fdF_len ds M ED QD h.2
section
variable {fa fb fc : FE} {oa ob oc : FO} {da db dc : DE} {ta tb : FT} {ua ub : DT} {as : FA} {dr : DA} {fi : FI} {di : DI} {np : Nat} {s1 s2 : FS} {t1 t2 : DS}
abbrev AD := D ⊕ Nat
abbrev FR := Sl → R (List AD)
inductive ArgD (sl : Slots) : List AD → List D → Prop
  | nil : ArgD sl [] []
  | d {d : D} {xs : List AD} {ds : List D} : ArgD sl xs ds → ArgD sl (.inl d :: xs) (d :: ds)
  | o {j : Nat} {d : D} {xs : List AD} {ds : List D} : sl[j]? = some (some d) → ArgD sl xs ds → ArgD sl (.inr j :: xs) (d :: ds)
def PoR (c : Cz) (sl : Slots) (ED : XD) (Q : List D → Mem → Prop) : R (List AD) → Prop
  | .ok xs fs => ∀ ds M, Rel c fs sl M → ArgD sl xs ds → Q ds M
  | .ex cls f fs => ∀ M, Rel c fs sl M → ED cls f M
  | .bad => False
def SimR (fr : FR) (dr : DA) : Prop := ∀ (c : Cz) (fs : Sl) (sl : Slots) (M : Mem) (ED : XD) (Q : List D → Mem → Prop), Rel c fs sl M → PoR c sl ED Q (fr fs) → dr sl M ED Q
@[simp] def rNil (s : Sl) : R (List AD) := .ok [] s
@[simp] def rE (a : FE) (r : FR) (s : Sl) : R (List AD) := (a s).bind fun w s => imK w fun d => (r s).bind fun xs s => .ok (.inl d :: xs) s
@[simp] def rO (j : Nat) (r : FR) (s : Sl) : R (List AD) := match s[j]? with
  | some (some _) => (r s).bind fun xs s => .ok (.inr j :: xs) s
  | _ => .bad
theorem r_nil : SimR rNil dNil := fun c fs sl M ED Q r q => q [] M r .nil
theorem r_e {fr : FR} (ha : SimE fa da) (hr : SimR fr dr) : SimR (rE fa fr) (dCons da dr) := by
  intro c fs sl M ED Q r q
  refine ha c fs sl M ED _ r ?_
  unfold rE at q
  cases e : fa fs with
  | ok w fs1 =>
    rw [e, ok_bind] at q
    cases w with
    | im d =>
      intro d' M1 r1
      obtain rfl := r1.eq
      refine hr c fs1 sl M1 ED _ r1.rel ?_
      unfold imK at q
      dsimp only at q
      cases e2 : fr fs1 with
      | ok ds fs2 => rw [e2] at q; exact fun ds M r a => q _ M r (.d a)
      | ex cl f' fs' => rw [e2] at q; exact q
      | bad => rw [e2] at q; exact q.elim
    | _ => exact q.elim
  | ex cl f' fs' => rw [e] at q; exact q
  | bad => rw [e] at q; exact q.elim
theorem r_o {fr : FR} {j : Nat} (hr : SimR fr dr) : SimR (rO j fr) (dCons (dVar j) dr) := by
  intro c fs sl M ED Q r q
  unfold rO at q
  split at q
  · rename_i sv e
    obtain ⟨E, r'⟩ := r
    obtain ⟨d, h1, h2⟩ := r'.slt j _ e
    refine ⟨d, h1, hr c fs sl M ED _ ⟨E, r'⟩ ?_⟩
    cases e2 : fr fs with
    | ok ds fs2 => rw [e2] at q; exact fun ds M r a => q _ M r (.o h1 a)
    | ex cl f' fs' => rw [e2] at q; exact q
    | bad => rw [e2] at q; exact q.elim
  · exact q.elim
/-- the arguments that are handed, and which slots own them -/
def argSv (s : Sl) : List AD → Option (List Sv)
  | [] => some []
  | .inl d :: xs => (match argSv s xs with | some r => some (.im d :: r) | none => none)
  | .inr j :: xs => (match s[j]?, argSv s xs with | some (some (.lok _ _)), _ => none | some (some sv), some r => some (sv :: r) | _, _ => none)
def ownJ (s : Sl) : List AD → List Nat
  | [] => []
  | .inl _ :: xs => ownJ s xs
  | .inr j :: xs => (match s[j]? with | some (some sv) => if owned sv = true then j :: ownJ s xs else ownJ s xs | _ => ownJ s xs)
/-- what was handed comes back -/
def back (s0 : Sl) : List AD → List Sv → Sl → Sl
  | .inl _ :: xs, _ :: os, s => back s0 xs os s
  | .inr j :: xs, o :: os, s => (match s0[j]? with | some (some sv) => if owned sv = true then back s0 xs os (s.set j (some o)) else back s0 xs os s | _ => back s0 xs os s)
  | _, _, s => s
def rsR (s : Sl) (xs : List AD) (r : Rs) : R Sv := match r with
  | .ok w outs => .ok w (back s xs outs s)
  | .ex _ _ _ => .bad
  | .bad => .bad
def call (np : Nat) (ff : FF) (xs : List AD) (s : Sl) : R Sv := match argSv s xs with
  | some args => if args.length = np ∧ (ownJ s xs).Nodup then rsR s xs (ff args) else .bad
  | none => .bad
@[simp] def fCall (np : Nat) (ff : FF) (r : FR) (s : Sl) : R Sv := (r s).bind fun xs s => call np ff xs s
/-- rows of places -/
inductive At (M : Mem) : List Nat → Mem → Prop
  | nil : At M [] []
  | cons {k : Nat} {e : Addr × N} {ks : List Nat} {L : Mem} : M[k]? = some e → At M ks L → At M (k :: ks) (e :: L)
theorem at_of {M : Mem} : ∀ {L : Mem}, (∀ e ∈ L, e ∈ M) → ∃ ks, At M ks L := by
  intro L
  induction L with
  | nil => intro _; exact ⟨[], .nil⟩
  | cons e L ih =>
    intro h
    obtain ⟨k, hk⟩ := List.getElem?_of_mem (h e (by simp))
    obtain ⟨ks, hks⟩ := ih fun x hx => h x (List.mem_cons_of_mem _ hx)
    exact ⟨k :: ks, .cons hk hks⟩
theorem At.sel {M : Mem} {ks : List Nat} {L : Mem} (h : At M ks L) : sel ks M = L := by
  induction h with
  | nil => rfl
  | cons a b ih => rw [sel_cons, a, ih]; rfl
theorem At.mem {M : Mem} {ks : List Nat} {L : Mem} (h : At M ks L) {k : Nat} (hk : k ∈ ks) : ∃ e ∈ L, M[k]? = some e := by
  induction h with
  | nil => cases hk
  | cons a b ih =>
    rcases List.mem_cons.mp hk with rfl | hk
    · exact ⟨_, by simp, a⟩
    · obtain ⟨e, h1, h2⟩ := ih hk
      exact ⟨e, List.mem_cons_of_mem _ h1, h2⟩
theorem At.nd {M : Mem} {ks : List Nat} {L : Mem} (h : At M ks L) (n : (keys L).Nodup) : ks.Nodup := by
  induction h with
  | nil => exact List.nodup_nil
  | cons a b ih =>
    have n' := List.nodup_cons.mp (show (_ :: keys _).Nodup from n)
    refine List.nodup_cons.mpr ⟨fun z => ?_, ih n'.2⟩
    obtain ⟨e, h1, h2⟩ := b.mem z
    rw [a] at h2
    cases h2
    exact n'.1 (List.mem_map.mpr ⟨_, h1, rfl⟩)
theorem At.len {M : Mem} {ks : List Nat} {L : Mem} (h : At M ks L) : ks.length = L.length := by
  induction h with
  | nil => rfl
  | cons a b ih => rw [List.length_cons, List.length_cons, ih]
theorem At.set {M : Mem} {ks : List Nat} {L : Mem} (h : At M ks L) {k : Nat} (hk : k ∉ ks) (e : Addr × N) : At (M.set k e) ks L := by
  induction h with
  | nil => exact .nil
  | cons a b ih =>
    refine .cons ?_ (ih fun z => hk (List.mem_cons_of_mem _ z))
    rw [List.getElem?_set_ne fun z => hk (by rw [z]; simp)]
    exact a
/-- what stands in the memory when a call is done -/
theorem putM_ok : ∀ {L : Mem} {ks : List Nat} {M L' R : Mem}, At M ks L → (keys L).Nodup → keys L' = keys L → keys (putM ks M (L' ++ R)) = keys M ++ keys R ∧ (∀ e ∈ L' ++ R, e ∈ putM ks M (L' ++ R)) ∧ ∀ e ∈ M, e.1 ∉ keys L → e ∈ putM ks M (L' ++ R) := by
  intro L
  induction L with
  | nil =>
    intro ks M L' R h n k
    cases h
    have : L' = [] := by cases L' with | nil => rfl | cons _ _ => cases k
    subst this
    exact ⟨keys_append, fun e he => List.mem_append_right _ he, fun e he _ => List.mem_append_left _ he⟩
  | cons e L ih =>
    intro ks M L' R h n k
    have hnd := h.nd n
    cases h with
    | cons h1 h2 =>
      rename_i k0 ks
      cases L' with
      | nil => cases k
      | cons e' L' =>
        have k1 : e'.1 = e.1 := (List.cons.inj k).1
        have k2 : keys L' = keys L := (List.cons.inj k).2
        have n' := List.nodup_cons.mp (show (e.1 :: keys L).Nodup from n)
        have nk := (List.nodup_cons.mp hnd).1
        have hk0 : k0 < M.length := (List.getElem?_eq_some_iff.mp h1).1
        obtain ⟨g1, g2, g3⟩ := ih (R := R) (h2.set nk e') n'.2 k2
        have ks' : keys (M.set k0 e') = keys M := by
          have h1' : M[k0]? = some (e.1, e.2) := h1
          have := keys_set (n' := e'.2) h1'
          rw [← k1] at this
          exact this
        show keys (putM ks (M.set k0 e') (L' ++ R)) = _ ∧ _
        refine ⟨by rw [g1, ks'], fun x hx => ?_, fun x hx hn => ?_⟩
        · rcases List.mem_cons.mp hx with rfl | hx
          · refine g3 _ (List.mem_of_getElem? (i := k0) (List.getElem?_set_self hk0)) ?_
            rw [k1]; exact n'.1
          · exact g2 x hx
        · refine g3 x ?_ fun z => hn (List.mem_cons_of_mem _ z)
          obtain ⟨t, ht⟩ := List.getElem?_of_mem hx
          have : k0 ≠ t := fun z => by rw [← z, h1] at ht; cases ht; exact hn (by show _ ∈ _ :: _; simp)
          exact List.mem_of_getElem? (by rw [List.getElem?_set_ne this]; exact ht)
theorem ownJ_inr {s : Sl} {j : Nat} {xs : List AD} : ownJ s (.inr j :: xs) = (match s[j]? with | some (some sv) => if owned sv = true then j :: ownJ s xs else ownJ s xs | _ => ownJ s xs) := rfl
theorem back_inr {s0 s : Sl} {j : Nat} {xs : List AD} {o : Sv} {os : List Sv} : back s0 (.inr j :: xs) (o :: os) s = (match s0[j]? with | some (some sv) => if owned sv = true then back s0 xs os (s.set j (some o)) else back s0 xs os s | _ => back s0 xs os s) := rfl
def esOf (E : Nat → Mem) : AD → Mem
  | .inl _ => []
  | .inr j => E (j + 1)
theorem ent_lk {lk : Lk} {sv : Sv} {d : D} {E : Mem} (h : Ent lk0 sv d E) : Ent lk sv d E := by
  cases sv with
  | lok _ _ => obtain ⟨_, p, od, ws, _, h2⟩ := h; cases h2
  | _ => exact h
def isLok : Sv → Bool
  | .lok _ _ => true
  | _ => false
theorem ent_nolk {lk : Lk} {sv : Sv} {d : D} {E : Mem} (h : Ent lk sv d E) (n : isLok sv = false) : Ent lk0 sv d E := by
  cases sv with
  | lok _ _ => cases n
  | _ => exact h
theorem argSv_inr {s : Sl} {j : Nat} {xs : List AD} {args : List Sv} (h : argSv s (.inr j :: xs) = some args) : ∃ sv r, s[j]? = some (some sv) ∧ isLok sv = false ∧ argSv s xs = some r ∧ args = sv :: r := by
  unfold argSv at h
  split at h
  · cases h
  · rename_i sv r nl e0 e1
    cases h
    refine ⟨sv, r, e0, ?_, e1, rfl⟩
    cases sv with
    | lok a k => exact (nl a k rfl).elim
    | _ => rfl
  · cases h
theorem args_ents {c : Cz} {fs : Sl} {sl : Slots} {M : Mem} {w : Sv} {d : D} {E : Nat → Mem} (r : Rl c fs sl M w d E) : ∀ {xs : List AD} {ds : List D} {args : List Sv}, ArgD sl xs ds → argSv fs xs = some args → Ents args ds (xs.map (esOf E)) := by
  intro xs ds args h
  induction h generalizing args with
  | nil => intro e; cases e; exact .nil
  | d h ih =>
    intro e
    unfold argSv at e
    split at e
    · rename_i r' e'
      cases e
      exact .cons ⟨rfl, rfl⟩ (ih e')
    · cases e
  | o h1 h ih =>
    intro e
    obtain ⟨sv, r', e0, nl, e', rfl⟩ := argSv_inr e
    obtain ⟨d', g1, g2⟩ := r.slt _ _ e0
    rw [h1] at g1; cases g1
    exact .cons (ent_nolk g2 nl) (ih e')
theorem mem_es {c : Cz} {fs : Sl} {sl : Slots} {M : Mem} {w : Sv} {d : D} {E : Nat → Mem} (r : Rl c fs sl M w d E) : ∀ {xs : List AD} {args : List Sv}, argSv fs xs = some args → ∀ {e : Addr × N}, e ∈ (xs.map (esOf E)).flatten → ∃ j ∈ ownJ fs xs, e ∈ E (j + 1) := by
  intro xs
  induction xs with
  | nil => intro args _ e he; cases he
  | cons x xs ih =>
    intro args ha e he
    rw [List.map_cons, List.flatten_cons] at he
    cases x with
    | inl d =>
      unfold argSv at ha
      split at ha
      · rename_i r' e'
        rcases List.mem_append.mp he with he | he
        · cases he
        · exact ih e' he
      · cases ha
    | inr j =>
      obtain ⟨sv, r', e0, nl, e', rfl⟩ := argSv_inr ha
      unfold ownJ
      rw [e0]
      dsimp only
      obtain ⟨d', g1, g2⟩ := r.slt _ _ e0
      rcases List.mem_append.mp he with he | he
      · by_cases ov : owned sv = true
        · rw [if_pos ov]; exact ⟨j, by simp, he⟩
        · replace he : e ∈ E (j + 1) := he
          rw [ent_im g2 (by simpa using ov)] at he
          cases he
      · obtain ⟨k, h1, h2⟩ := ih e' he
        by_cases ov : owned sv = true
        · rw [if_pos ov]; exact ⟨k, List.mem_cons_of_mem _ h1, h2⟩
        · rw [if_neg ov]; exact ⟨k, h1, h2⟩
theorem nd_es {c : Cz} {fs : Sl} {sl : Slots} {M : Mem} {w : Sv} {d : D} {E : Nat → Mem} (r : Rl c fs sl M w d E) : ∀ {xs : List AD} {args : List Sv}, argSv fs xs = some args → (ownJ fs xs).Nodup → (keys (xs.map (esOf E)).flatten).Nodup := by
  intro xs
  induction xs with
  | nil => intro args _ _; exact List.nodup_nil
  | cons x xs ih =>
    intro args ha hn
    rw [List.map_cons, List.flatten_cons, keys_append]
    unfold ownJ at hn
    cases x with
    | inl d =>
      unfold argSv at ha
      dsimp only at hn
      split at ha
      · rename_i r' e'
        exact ih e' hn
      · cases ha
    | inr j =>
      obtain ⟨sv, r', e0, nl, e', rfl⟩ := argSv_inr ha
      dsimp only at hn
      rw [e0] at hn
      dsimp only at hn
      obtain ⟨d', g1, g2⟩ := r.slt _ _ e0
      by_cases ov : owned sv = true
      · rw [if_pos ov] at hn
        obtain ⟨n1, n2⟩ := List.nodup_cons.mp hn
        refine List.nodup_append.mpr ⟨r.ndE (j + 1), ih e' n2, fun a ha b hb z => ?_⟩
        subst z
        obtain ⟨e, he, rfl⟩ := List.mem_map.mp hb
        obtain ⟨k, h1, h2⟩ := mem_es r e' he
        exact r.dis (j + 1) (k + 1) e.1 (fun z => n1 (by rw [show j = k by omega]; exact h1)) ha (List.mem_map.mpr ⟨e, h2, rfl⟩)
      · rw [if_neg ov] at hn
        rw [show esOf E (.inr j) = [] from ent_im g2 (by simpa using ov)]
        exact ih e' hn
theorem es_sub {c : Cz} {fs : Sl} {sl : Slots} {M : Mem} {w : Sv} {d : D} {E : Nat → Mem} (r : Rl c fs sl M w d E) {xs : List AD} {args : List Sv} (h : argSv fs xs = some args) : ∀ e ∈ (xs.map (esOf E)).flatten, e ∈ M := fun e he => by
  obtain ⟨j, _, h2⟩ := mem_es r h he
  exact r.sub _ e h2
theorem back_ok {lk : Lk} {fs : Sl} {sl : Slots} {E : Nat → Mem} : ∀ {xs : List AD} {ds : List D} {outs : List Sv} {Es' : List Mem}, ArgD sl xs ds → Ents outs ds Es' → Es'.map keys = (xs.map (esOf E)).map keys →
    ∀ (s : Sl) (Ec : Nat → Mem), s.length = sl.length → (∀ i sv, s[i]? = some (some sv) → ∃ d, sl[i]? = some (some d) ∧ Ent lk sv d (Ec (i + 1))) →
      ∃ Ec' : Nat → Mem, (back fs xs outs s).length = sl.length ∧ (∀ i sv, (back fs xs outs s)[i]? = some (some sv) → ∃ d, sl[i]? = some (some d) ∧ Ent lk sv d (Ec' (i + 1))) ∧
        ∀ t, (Ec' t = Ec t ∧ ∀ j ∈ ownJ fs xs, t ≠ j + 1) ∨ ((∃ j ∈ ownJ fs xs, t = j + 1) ∧ keys (Ec' t) = keys (E t) ∧ ∀ e ∈ Ec' t, e ∈ Es'.flatten) := by
  intro xs ds outs Es' h
  induction h generalizing outs Es' with
  | nil =>
    intro he hk s Ec hl hs
    cases he
    exact ⟨Ec, hl, hs, fun t => .inl ⟨rfl, fun j hj => by cases hj⟩⟩
  | d h ih =>
    intro he hk s Ec hl hs
    cases he with
    | cons e1 e2 =>
      rename_i os L Es
      obtain ⟨Ec', g1, g2, g3⟩ := ih e2 (List.cons.inj hk).2 s Ec hl hs
      refine ⟨Ec', g1, g2, fun t => ?_⟩
      rcases g3 t with z | ⟨z1, z2, z3⟩
      · exact .inl z
      · exact .inr ⟨z1, z2, fun e he => by rw [List.flatten_cons]; exact List.mem_append_right _ (z3 e he)⟩
  | o h1 h ih =>
    rename_i j d xs ds
    intro he hk s Ec hl hs
    cases he with
    | cons e1 e2 =>
      rename_i o L os Es
      have k1 : keys L = keys (E (j + 1)) := (List.cons.inj hk).1
      have k2 := (List.cons.inj hk).2
      have no : back fs xs os s = back fs xs os s → ownJ fs (.inr j :: xs) = ownJ fs xs → back fs (.inr j :: xs) (o :: os) s = back fs xs os s →
          ∃ Ec' : Nat → Mem, (back fs (.inr j :: xs) (o :: os) s).length = sl.length ∧ (∀ i sv, (back fs (.inr j :: xs) (o :: os) s)[i]? = some (some sv) → ∃ d, sl[i]? = some (some d) ∧ Ent lk sv d (Ec' (i + 1))) ∧
        ∀ t, (Ec' t = Ec t ∧ ∀ k ∈ ownJ fs (.inr j :: xs), t ≠ k + 1) ∨ ((∃ k ∈ ownJ fs (.inr j :: xs), t = k + 1) ∧ keys (Ec' t) = keys (E t) ∧ ∀ e ∈ Ec' t, e ∈ (L :: Es).flatten) := fun _ q1 q2 => by
        obtain ⟨Ec', g1, g2, g3⟩ := ih e2 k2 s Ec hl hs
        rw [q1, q2]
        refine ⟨Ec', g1, g2, fun t => ?_⟩
        rcases g3 t with z | ⟨z1, z2, z3⟩
        · exact .inl z
        · exact .inr ⟨z1, z2, fun e he => by rw [List.flatten_cons]; exact List.mem_append_right _ (z3 e he)⟩
      cases e0 : fs[j]? with
      | none => exact no rfl (by rw [ownJ_inr, e0]) (by rw [back_inr, e0])
      | some o0 =>
        cases o0 with
        | none => exact no rfl (by rw [ownJ_inr, e0]) (by rw [back_inr, e0])
        | some sv =>
          by_cases ov : owned sv = true
          · have q1 : ownJ fs (.inr j :: xs) = j :: ownJ fs xs := by rw [ownJ_inr, e0]; exact if_pos ov
            have q2 : back fs (.inr j :: xs) (o :: os) s = back fs xs os (s.set j (some o)) := by rw [back_inr, e0]; exact if_pos ov
            obtain ⟨Ec', g1, g2, g3⟩ := ih e2 k2 (s.set j (some o)) (fun t => if t = j + 1 then L else Ec t) (by rw [List.length_set]; exact hl) fun i sv' e => by
              by_cases z : j = i
              · subst z
                have hi : j < s.length := by
                  have := (List.getElem?_eq_some_iff.mp e).1
                  rwa [List.length_set] at this
                rw [List.getElem?_set_self hi] at e
                cases e
                exact ⟨d, h1, by rw [if_pos rfl]; exact ent_lk e1⟩
              · rw [List.getElem?_set_ne z] at e
                obtain ⟨d', p1, p2⟩ := hs i sv' e
                exact ⟨d', p1, by rw [if_neg (by omega)]; exact p2⟩
            rw [q1, q2]
            refine ⟨Ec', g1, g2, fun t => ?_⟩
            rcases g3 t with ⟨z1, z2⟩ | ⟨⟨k, z0, z0'⟩, z2, z3⟩
            · by_cases zt : t = j + 1
              · refine .inr ⟨⟨j, by simp, zt⟩, ?_, fun e he => ?_⟩
                · rw [z1, if_pos zt, k1, zt]
                · rw [z1, if_pos zt] at he
                  rw [List.flatten_cons]; exact List.mem_append_left _ he
              · refine .inl ⟨by rw [z1, if_neg zt], fun k hk => ?_⟩
                rcases List.mem_cons.mp hk with rfl | hk
                · exact zt
                · exact z2 k hk
            · exact .inr ⟨⟨k, List.mem_cons_of_mem _ z0, z0'⟩, z2, fun e he => by rw [List.flatten_cons]; exact List.mem_append_right _ (z3 e he)⟩
          · exact no rfl (by rw [ownJ_inr, e0]; exact if_neg ov) (by rw [back_inr, e0]; exact if_neg ov)
theorem keys_take (M : Mem) (n : Nat) : keys (M.take n) = (keys M).take n := by unfold keys; rw [List.map_take]
/-- behind a call -/
theorem call_ok {c : Cz} {fs : Sl} {sl : Slots} {M : Mem} {w0 : Sv} {d0 : D} {E : Nat → Mem} (r : Rl c fs sl M w0 d0 E) {xs : List AD} {ds : List D} {args outs : List Sv} (ha : ArgD sl xs ds) (hg : argSv fs xs = some args) (hn : (ownJ fs xs).Nodup)
    {ks : List Nat} (hks : At M ks (xs.map (esOf E)).flatten) {Es' : List Mem} {w : Sv} {d : D} {Ew : Mem} (ho : Ents outs ds Es') (hk : Es'.map keys = (xs.map (esOf E)).map keys) (hw : Ent lk0 w d Ew)
    (nd : (keys (putM ks M (Es'.flatten ++ Ew))).Nodup) : RelW c (back fs xs outs fs) sl (putM ks M (Es'.flatten ++ Ew)) w d := by
  obtain ⟨p1, p2, p3⟩ := putM_ok (R := Ew) hks (nd_es r hg hn) (by rw [keys_flatten, keys_flatten, hk] : keys Es'.flatten = _)
  obtain ⟨Ec, g1, g2, g3⟩ := back_ok (fs := fs) ha ho hk fs E r.len r.slt
  have kE : ∀ t, keys (Ec t) = keys (E t) := fun t => by
    rcases g3 t with ⟨z, _⟩ | ⟨_, z, _⟩
    · rw [z]
    · exact z
  have mk : ∀ t a, a ∈ keys (E t) → a ∈ keys M := fun t a ha => by
    obtain ⟨e, he, rfl⟩ := List.mem_map.mp ha
    exact List.mem_map.mpr ⟨e, r.sub t e he, rfl⟩
  have nd' := nd
  rw [p1] at nd'
  have dj : ∀ a, a ∈ keys M → a ∈ keys Ew → False := fun a h1 h2 => (List.nodup_append.mp nd').2.2 a h1 a h2 rfl
  have ek : ∀ t, keys (if t = 0 then Ew else Ec t) = if t = 0 then keys Ew else keys (E t) := fun t => by
    by_cases z : t = 0
    · rw [if_pos z, if_pos z]
    · rw [if_neg z, if_neg z, kE]
  refine ⟨fun t => if t = 0 then Ew else Ec t, nd, g1, ent_lk hw, fun i sv e => ?_, fun t e he => ?_, fun t => ?_, fun t u a n ha hb => ?_, fun i hi => ?_, fun t a ht ha => ?_, ?_, fun e he => ?_, fun e he t ht => ?_⟩
  · obtain ⟨d, h1, h2⟩ := g2 i sv e
    exact ⟨d, h1, by rw [if_neg (Nat.succ_ne_zero i)]; exact h2⟩
  · by_cases z : t = 0
    · rw [if_pos z] at he; exact p2 e (List.mem_append_right _ he)
    · rw [if_neg z] at he
      rcases g3 t with ⟨z1, z2⟩ | ⟨_, _, z3⟩
      · rw [z1] at he
        refine p3 e (r.sub t e he) fun hz => ?_
        obtain ⟨e', he', ee⟩ := List.mem_map.mp hz
        obtain ⟨j, h1, h2⟩ := mem_es r hg he'
        exact r.dis t (j + 1) e.1 (z2 j h1) (List.mem_map.mpr ⟨e, he, rfl⟩) (List.mem_map.mpr ⟨e', h2, ee⟩)
      · exact p2 e (List.mem_append_left _ (z3 e he))
  · rw [ek]
    by_cases z : t = 0
    · rw [if_pos z]; exact ent_nd hw
    · rw [if_neg z]; exact r.ndE t
  · rw [ek] at ha hb
    by_cases z : t = 0
    · rw [if_pos z] at ha
      rw [if_neg fun y => n (by rw [z, y])] at hb
      exact dj a (mk u a hb) ha
    · rw [if_neg z] at ha
      by_cases y : u = 0
      · rw [if_pos y] at hb; exact dj a (mk t a ha) hb
      · rw [if_neg y] at hb; exact r.dis t u a n ha hb
  · rw [if_neg (Nat.succ_ne_zero i)]
    rcases r.pin i hi with z | z
    · left
      have := kE (i + 1)
      rw [z] at this
      cases h : Ec (i + 1) with
      | nil => rfl
      | cons _ _ => rw [h] at this; cases this
    · right; rw [kE]; exact z
  · rw [ek] at ha
    by_cases z : t = 0
    · rw [if_pos z] at ha; exact fun y => dj a (pre_keys r.pre a y) ha
    · rw [if_neg z] at ha; exact r.frs t a ht ha
  · have hp := r.pre
    unfold Pre at hp ⊢
    rw [keys_take, p1]
    rw [keys_take] at hp
    have hl : c.M0.length ≤ (keys M).length := by
      have := congrArg List.length hp
      unfold keys at this ⊢
      rw [List.length_take, List.length_map, List.length_map] at this
      rw [List.length_map]
      omega
    rw [List.take_append_of_le_length hl]
    exact hp
  · refine p3 e (r.lks e he) fun hz => ?_
    obtain ⟨e', he', ee⟩ := List.mem_map.mp hz
    obtain ⟨j, h1, h2⟩ := mem_es r hg he'
    exact r.lkd e he (j + 1) (List.mem_map.mpr ⟨e', h2, ee⟩)
  · rw [ek] at ht
    by_cases z : t = 0
    · rw [if_pos z] at ht; exact dj e.1 (List.mem_map.mpr ⟨e, r.lks e he, rfl⟩) ht
    · rw [if_neg z] at ht; exact r.lkd e he t ht
theorem s_call {n : Nat} {ff : FF} {fr : FR} (hr : SimR fr dr) : SimE (fCall n ff fr) (dCallN (fdN n ff) dr) := by
  intro c fs sl M ED Q r q
  refine hr c fs sl M ED _ r ?_
  unfold fCall at q
  cases e : fr fs with
  | ok xs fs1 =>
    rw [e, ok_bind] at q
    intro ds M1 r1 ha
    obtain ⟨E, r1⟩ := r1
    unfold call at q
    cases eg : argSv fs1 xs with
    | none => rw [eg] at q; exact q.elim
    | some args =>
      rw [eg] at q
      dsimp only at q
      by_cases hh : args.length = n ∧ (ownJ fs1 xs).Nodup
      · rw [if_pos hh] at q
        have en := args_ents r1 ha eg
        obtain ⟨ks, hks⟩ := at_of (es_sub r1 eg)
        refine ⟨ks, hks.nd (nd_es r1 eg hh.2), by rw [hks.sel, hks.len], ?_⟩
        rw [hks.sel]
        refine ⟨nd_es r1 eg hh.2, args, _, hh.1, en, rfl, ?_⟩
        cases ef : ff args with
        | ok w outs =>
          rw [ef] at q
          intro d Ew Es' g1 g2 g3 g4
          exact q d _ (call_ok r1 ha eg hh.2 hks g1 g2 g3 g4)
        | ex cl f outs => rw [ef] at q; exact q.elim
        | bad => rw [ef] at q; exact q.elim
      · rw [if_neg hh] at q; exact q.elim
  | ex cl f' fs' => rw [e] at q; exact q
  | bad => rw [e] at q; exact q.elim
end
end F

/-! F8: comprehensions; items set; names changed. -/
namespace F
open PySem PySem.Spec L2 OD
section
variable {fa fb fc : FE} {oa ob oc : FO} {da db dc : DE} {ta tb : FT} {ua ub : DT} {as : FA} {dr : DA} {fi : FI} {di : DI} {np : Nat} {s1 s2 : FS} {t1 t2 : DS}
/-! ### comprehensions -/
def wipeF (s : Sl) : List Nat → Sl
  | [] => s
  | v :: vs => (wipeF s vs).set v none
def restF (s0 : Sl) (s : Sl) : List Nat → Sl
  | [] => s
  | v :: vs => (restF s0 s vs).set v ((s0[v]?).getD none)
@[simp] theorem wipeF_nil (s : Sl) : wipeF s [] = s := rfl
@[simp] theorem wipeF_cons (s : Sl) (v : Nat) (vs : List Nat) : wipeF s (v :: vs) = (wipeF s vs).set v none := rfl
@[simp] theorem restF_nil (s0 s : Sl) : restF s0 s [] = s := rfl
@[simp] theorem restF_cons (s0 s : Sl) (v : Nat) (vs : List Nat) : restF s0 s (v :: vs) = (restF s0 s vs).set v ((s0[v]?).getD none) := rfl
@[simp] def free (s : Sl) (v : Nat) : Bool := match s[v]? with
  | some (some (.im _)) => true
  | some (some _) => false
  | _ => true
@[simp] def tYes (s : Sl) : R Bool := .ok true s
def nox {α : Type} : R α → R α
  | .ex _ _ _ => .bad
  | r => r
@[simp] theorem nox_ok {α : Type} (a : α) (s : Sl) : nox (.ok a s) = .ok a s := rfl
noncomputable def lcL (vs : List Nat) (tg : FG) (t : FT) (e : FE) : List D → Sl → List D → R (List D)
  | [], s, acc => .ok acc s
  | x :: xs, s, acc => match tg x (wipeF s vs) with
    | some s1 => (nox (t s1)).bind fun b s2 => if b = true then (nox (e s2)).bind fun w s3 => imK w fun d => cif (acc.length < 16777216) (lcL vs tg t e xs s3 (acc ++ [d])) .bad else lcL vs tg t e xs s2 acc
    | none => .bad
@[simp] theorem lcL_nil (vs tg t e s acc) : lcL vs tg t e [] s acc = .ok acc s := rfl
@[simp] noncomputable def fLc (it : FI) (vs : List Nat) (tg : FG) (t : FT) (e : FE) (s : Sl) : R Sv := (it s).bind fun xs s => if vs.all (free s) = true then (lcL vs tg t e xs s []).bind fun acc s2 => .ok (.im (.lst acc)) (restF s s2 vs) else .bad
@[simp] noncomputable def fLcN (it : FI) (vs : List Nat) (tg : FG) (t : FT) (e : FE) (s : Sl) : R Sv := (it s).bind fun xs s => if vs.all (free s) = true then (lcL vs tg t e xs s []).bind fun acc s2 => .ok (.lst acc) (restF s s2 vs) else .bad
theorem wipeF_len (s : Sl) : ∀ vs : List Nat, (wipeF s vs).length = s.length := by
  intro vs
  induction vs with
  | nil => rfl
  | cons v vs ih => rw [wipeF_cons, List.length_set, ih]
theorem wipeD_len (s : Slots) : ∀ vs : List Nat, (wipeD s vs).length = s.length := by
  intro vs
  induction vs with
  | nil => rfl
  | cons v vs ih => show ((wipeD s vs).set v none).length = _; rw [List.length_set, ih]
theorem restF_len (s0 s : Sl) : ∀ vs : List Nat, (restF s0 s vs).length = s.length := by
  intro vs
  induction vs with
  | nil => rfl
  | cons v vs ih => rw [restF_cons, List.length_set, ih]
theorem wipeF_in (s : Sl) : ∀ (vs : List Nat) (i : Nat) (sv : Sv), (wipeF s vs)[i]? = some (some sv) → i ∉ vs ∧ s[i]? = some (some sv) := by
  intro vs
  induction vs with
  | nil => exact fun i sv e => ⟨by simp, e⟩
  | cons v vs ih =>
    intro i sv e
    rw [wipeF_cons] at e
    by_cases z : v = i
    · subst z
      have hi : v < (wipeF s vs).length := by
        have := (List.getElem?_eq_some_iff.mp e).1
        rwa [List.length_set] at this
      rw [List.getElem?_set_self hi] at e
      cases e
    · rw [List.getElem?_set_ne z] at e
      obtain ⟨h1, h2⟩ := ih i sv e
      exact ⟨fun w => (List.mem_cons.mp w).elim (fun w => z w.symm) h1, h2⟩
theorem wipeD_out (s : Slots) : ∀ (vs : List Nat) (i : Nat), i ∉ vs → (wipeD s vs)[i]? = s[i]? := by
  intro vs
  induction vs with
  | nil => exact fun i _ => rfl
  | cons v vs ih =>
    intro i h
    show ((wipeD s vs).set v none)[i]? = _
    rw [List.getElem?_set_ne fun z => h (by rw [z]; simp)]
    exact ih i fun z => h (List.mem_cons_of_mem _ z)
theorem wipeF_out (s : Sl) : ∀ (vs : List Nat) (i : Nat), i ∉ vs → (wipeF s vs)[i]? = s[i]? := by
  intro vs
  induction vs with
  | nil => exact fun i _ => rfl
  | cons v vs ih =>
    intro i h
    rw [wipeF_cons, List.getElem?_set_ne fun z => h (by rw [z]; simp)]
    exact ih i fun z => h (List.mem_cons_of_mem _ z)
theorem restF_out (s0 s : Sl) : ∀ (vs : List Nat) (i : Nat), i ∉ vs → (restF s0 s vs)[i]? = s[i]? := by
  intro vs
  induction vs with
  | nil => exact fun i _ => rfl
  | cons v vs ih =>
    intro i h
    rw [restF_cons, List.getElem?_set_ne fun z => h (by rw [z]; simp)]
    exact ih i fun z => h (List.mem_cons_of_mem _ z)
theorem restF_in (s0 s : Sl) : ∀ (vs : List Nat) (i : Nat) (sv : Sv), i ∈ vs → (restF s0 s vs)[i]? = some (some sv) → s0[i]? = some (some sv) := by
  intro vs
  induction vs with
  | nil => intro i sv h; cases h
  | cons v vs ih =>
    intro i sv h e
    rw [restF_cons] at e
    by_cases z : v = i
    · subst z
      have hi : v < (restF s0 s vs).length := by
        have := (List.getElem?_eq_some_iff.mp e).1
        rwa [List.length_set] at this
      rw [List.getElem?_set_self hi] at e
      cases e2 : s0[v]? with
      | none => rw [e2] at e; cases e
      | some o => rw [e2] at e; cases e; rfl
    · rw [List.getElem?_set_ne z] at e
      exact ih i sv ((List.mem_cons.mp h).elim (fun w => absurd w.symm z) _root_.id) e
theorem Rel.wipe {c : Cz} {fs : Sl} {sl : Slots} {M : Mem} (r : Rel c fs sl M) (vs : List Nat) : Rel c (wipeF fs vs) (wipeD sl vs) M :=
  r.chg (by rw [wipeF_len, wipeD_len, r.len]) fun i sv e => by
    obtain ⟨h1, h2⟩ := wipeF_in fs vs i sv e
    exact .inr ⟨h2, wipeD_out sl vs i h1⟩
theorem Rel.again {c : Cz} {fs : Sl} {sl sl2 : Slots} {M : Mem} {vs : List Nat} (r : Rel c fs sl2 M) (h : ∀ i : Nat, i ∉ vs → sl2[i]? = (wipeD sl vs)[i]?) (hl : sl2.length = sl.length) : Rel c (wipeF fs vs) (wipeD sl vs) M :=
  r.chg (by rw [wipeF_len, wipeD_len, r.len, hl]) fun i sv e => by
    obtain ⟨h1, h2⟩ := wipeF_in fs vs i sv e
    exact .inr ⟨h2, (h i h1).symm⟩
theorem Rel.rest {c : Cz} {fs0 fs : Sl} {sl : Slots} {M0 M : Mem} {vs : List Nat} (r0 : Rel c fs0 sl M0) (hv : vs.all (free fs0) = true) (r : Rel c (wipeF fs vs) (wipeD sl vs) M) : Rel c (restF fs0 fs vs) sl M := by
  have hl : fs.length = sl.length := by
    have := r.len
    rw [wipeF_len, wipeD_len] at this
    exact this
  refine r.chg (by rw [restF_len, hl]) fun i sv e => ?_
  by_cases h : i ∈ vs
  · left
    have e0 := restF_in fs0 fs vs i sv h e
    have fr := List.all_eq_true.mp hv i h
    unfold free at fr
    rw [e0] at fr
    obtain ⟨E, r0⟩ := r0
    obtain ⟨d, h1, h2⟩ := r0.slt i sv e0
    cases sv with
    | im d' => obtain rfl := h2.1; exact ⟨_, rfl, h1⟩
    | _ => cases fr
  · right
    rw [restF_out fs0 fs vs i h] at e
    exact ⟨by rw [wipeF_out fs vs i h]; exact e, (wipeD_out sl vs i h).symm⟩
theorem lc_core1 {tg : FG} {dg : DG} {vs : List Nat} {fin : List D → Sl → R Sv} (hg : SimG vs tg dg) (ht : SimT ta ua) (he : SimE fa da) {o : Bool}
    {c : Cz} {it : Itm} {xs : List D} (ok : ItOk1 c it xs) {fs1 : Sl} {sl : Slots} {M1 : Mem} {ED : XD} {Q : DK} (r1 : Rel c fs1 sl M1) (hv : vs.all (free fs1) = true) (q : PoE c sl ED Q ((lcL vs tg ta fa xs fs1 []).bind fun acc s2 => fin acc (restF fs1 s2 vs)))
    {Q2 : List D → Mem → Prop} (hfin : ∀ acc s M, Rel c s sl M → PoE c sl ED Q (fin acc s) → Q2 acc M) : ∃ W : Nat → List D → Mem → Prop, W 0 [] M1 ∧ (∀ j acc M, j ≤ it.n → W j acc M → it.gd M) ∧
  (∀ j acc M, j < it.n → W j acc M → dg (it.at_ j) (wipeD sl vs) M fun sl2 M2 => ua sl2 M2 NoX fun b M3 => if b = true then da sl2 M3 NoX fun d M4 => acc.length < 16777216 ∧ W (j + 1) (acc ++ [d]) M4 else W (j + 1) acc M3) ∧
  ∀ acc M, W it.n acc M → Q2 acc M := by
  refine ⟨fun j acc M' => ∃ fsI, Rel c (wipeF fsI vs) (wipeD sl vs) M' ∧ PoE c sl ED Q ((lcL vs tg ta fa (xs.drop j) fsI acc).bind fun acc s2 => fin acc (restF fs1 s2 vs)), ⟨fs1, r1.wipe vs, q⟩, fun _ _ M _ w => w.elim fun fsI w => ok.gd _ _ M w.1, fun j acc M' hj w => ?_, fun acc M' w => ?_⟩
  · obtain ⟨fsI, rI, qI⟩ := w
    have hj' : j < xs.length := by rw [← ok.n]; exact hj
    rw [List.drop_eq_getElem_cons hj'] at qI
    unfold lcL at qI
    rw [ok.at_ j hj']
    cases eg : tg xs[j] (wipeF fsI vs) with
    | none => rw [eg] at qI; exact qI.elim
    | some s1 =>
      rw [eg] at qI
      dsimp only at qI
      refine hg c _ s1 (wipeD sl vs) M' _ _ rI eg fun sl2 k2 r2 => ?_
      have hl2 : sl2.length = sl.length := k2.1.trans (wipeD_len sl vs)
      refine ht c s1 sl2 M' _ _ r2 ?_
      cases et : ta s1 with
      | ex cl f' fs' => rw [et] at qI; exact qI.elim
      | bad => rw [et] at qI; exact qI.elim
      | ok b s2 =>
        rw [et, nox_ok, ok_bind] at qI
        intro M3 r3
        cases b with
        | false =>
          rw [if_neg Bool.false_ne_true] at qI ⊢
          exact ⟨s2, r3.again k2.2 hl2, qI⟩
        | true =>
          rw [if_pos rfl] at qI ⊢
          refine he c s2 sl2 M3 _ _ r3 ?_
          cases ee : fa s2 with
          | ex cl f' fs' => rw [ee] at qI; exact qI.elim
          | bad => rw [ee] at qI; exact qI.elim
          | ok w s3 =>
            rw [ee, nox_ok, ok_bind] at qI
            intro d M4 r4
            cases w with
            | im x =>
              obtain rfl := r4.eq
              unfold imK at qI
              dsimp only at qI
              by_cases hz : acc.length < 16777216
              · rw [cif_pos hz] at qI
                exact ⟨hz, s3, r4.rel.again k2.2 hl2, qI⟩
              · rw [cif_neg hz] at qI; exact qI.elim
            | _ => exact qI.elim
  · obtain ⟨fsI, rI, qI⟩ := w
    rw [ok.n, List.drop_length] at qI
    exact hfin acc _ M' (r1.rest hv rI) qI
theorem lc_core {o : Bool} {tg : FG} {dg : DG} {vs : List Nat} {fin : List D → Sl → R Sv} (hi : SimI fi di) (hg : SimG vs tg dg) (ht : SimT ta ua) (he : SimE fa da)
    (c : Cz) (fs : Sl) (sl : Slots) (M : Mem) (ED : XD) (Q : DK) (r : Rel c fs sl M) (q : PoE c sl ED Q ((fi fs).bind fun xs s => if vs.all (free s) = true then (lcL vs tg ta fa xs s []).bind fun acc s2 => fin acc (restF s s2 vs) else .bad))
    (hfin : ∀ acc s M, Rel c s sl M → PoE c sl ED Q (fin acc s) → al o (.lst acc) M Q) : dLc o di vs dg ua da sl M ED Q := by
  refine hi c fs sl M _ _ r ?_
  cases ei : fi fs with
  | ex cl f' fs' => rw [ei] at q; exact q
  | bad => rw [ei] at q; exact q.elim
  | ok xs fs1 =>
    rw [ei, ok_bind] at q
    intro it M1 r1 ok
    by_cases hv : vs.all (free fs1) = true
    · rw [if_pos hv] at q
      exact lc_core1 hg ht he (o := o) (ok.one c) r1 hv q hfin
    · rw [if_neg hv] at q; exact q.elim
theorem s_lc {tg : FG} {dg : DG} {vs : List Nat} (hi : SimI fi di) (hg : SimG vs tg dg) (ht : SimT ta ua) (he : SimE fa da) : SimE (fLc fi vs tg ta fa) (dLc false di vs dg ua da) := by
  intro c fs sl M ED Q r q
  exact lc_core (o := false) (fin := fun acc s2 => .ok (.im (.lst acc)) s2) hi hg ht he c fs sl M ED Q r q fun acc s M r q => q _ M (r.imI _)
theorem s_lcN {tg : FG} {dg : DG} {vs : List Nat} (hi : SimI fi di) (hg : SimG vs tg dg) (ht : SimT ta ua) (he : SimE fa da) : SimE (fLcN fi vs tg ta fa) (dLc true di vs dg ua da) := by
  intro c fs sl M ED Q r q
  exact lc_core (o := true) (fin := fun acc s2 => .ok (.lst acc) s2) hi hg ht he c fs sl M ED Q r q fun acc s M r q => al_new (n := .lst acc) rfl r q
theorem t_yes : SimT tYes dYes := fun c fs sl M ED Q r q => q M r
/-! ### dicts made by comprehensions -/
@[simp] def keK {α : Type} (w : Sv) (f : Key → R α) : R α := match w with
  | .im d => (match keyD d with | some k => f k | none => .bad)
  | _ => .bad
noncomputable def dcL (vs : List Nat) (tg : FG) (t : FT) (kf e : FE) : List D → Sl → List (Key × D) → R (List (Key × D))
  | [], s, acc => .ok acc s
  | x :: xs, s, acc => match tg x (wipeF s vs) with
    | some s1 => (nox (t s1)).bind fun b s2 => if b = true then (nox (kf s2)).bind fun w s3 => keK w fun k => (nox (e s3)).bind fun w s4 => imK w fun d => cif (acc.length < 16777216) (dcL vs tg t kf e xs s4 (putD acc k d)) .bad else dcL vs tg t kf e xs s2 acc
    | none => .bad
@[simp] theorem dcL_nil (vs tg t kf e s acc) : dcL vs tg t kf e [] s acc = .ok acc s := rfl
@[simp] noncomputable def fDc (it : FI) (vs : List Nat) (tg : FG) (t : FT) (kf e : FE) (s : Sl) : R Sv := (it s).bind fun xs s => if vs.all (free s) = true then (dcL vs tg t kf e xs s []).bind fun acc s2 => .ok (.im (.dic acc)) (restF s s2 vs) else .bad
@[simp] noncomputable def fDcN (it : FI) (vs : List Nat) (tg : FG) (t : FT) (kf e : FE) (s : Sl) : R Sv := (it s).bind fun xs s => if vs.all (free s) = true then (dcL vs tg t kf e xs s []).bind fun acc s2 => .ok (.dic acc) (restF s s2 vs) else .bad
theorem dc_core1 {tg : FG} {dg : DG} {vs : List Nat} {fin : List (Key × D) → Sl → R Sv} (hg : SimG vs tg dg) (ht : SimT ta ua) (hk : SimE fb db) (he : SimE fa da) {o : Bool}
    {c : Cz} {it : Itm} {xs : List D} (ok : ItOk1 c it xs) {fs1 : Sl} {sl : Slots} {M1 : Mem} {ED : XD} {Q : DK} (r1 : Rel c fs1 sl M1) (hv : vs.all (free fs1) = true) (q : PoE c sl ED Q ((dcL vs tg ta fb fa xs fs1 []).bind fun acc s2 => fin acc (restF fs1 s2 vs)))
    {Q2 : List (Key × D) → Mem → Prop} (hfin : ∀ acc s M, Rel c s sl M → PoE c sl ED Q (fin acc s) → Q2 acc M) : ∃ W : Nat → List (Key × D) → Mem → Prop, W 0 [] M1 ∧ (∀ j acc M, j ≤ it.n → W j acc M → it.gd M) ∧
  (∀ j acc M, j < it.n → W j acc M → dg (it.at_ j) (wipeD sl vs) M fun sl2 M2 => ua sl2 M2 NoX fun b M3 => if b = true then db sl2 M3 NoX fun dk M4 => ∃ k, keyD dk = some k ∧ da sl2 M4 NoX fun d M5 => acc.length < 16777216 ∧ W (j + 1) (putD acc k d) M5 else W (j + 1) acc M3) ∧
  ∀ acc M, W it.n acc M → Q2 acc M := by
  refine ⟨fun j acc M' => ∃ fsI, Rel c (wipeF fsI vs) (wipeD sl vs) M' ∧ PoE c sl ED Q ((dcL vs tg ta fb fa (xs.drop j) fsI acc).bind fun acc s2 => fin acc (restF fs1 s2 vs)), ⟨fs1, r1.wipe vs, q⟩, fun _ _ M _ w => w.elim fun fsI w => ok.gd _ _ M w.1, fun j acc M' hj w => ?_, fun acc M' w => ?_⟩
  · obtain ⟨fsI, rI, qI⟩ := w
    have hj' : j < xs.length := by rw [← ok.n]; exact hj
    rw [List.drop_eq_getElem_cons hj'] at qI
    unfold dcL at qI
    rw [ok.at_ j hj']
    cases eg : tg xs[j] (wipeF fsI vs) with
    | none => rw [eg] at qI; exact qI.elim
    | some s1 =>
      rw [eg] at qI
      dsimp only at qI
      refine hg c _ s1 (wipeD sl vs) M' _ _ rI eg fun sl2 k2 r2 => ?_
      have hl2 : sl2.length = sl.length := k2.1.trans (wipeD_len sl vs)
      refine ht c s1 sl2 M' _ _ r2 ?_
      cases et : ta s1 with
      | ex cl f' fs' => rw [et] at qI; exact qI.elim
      | bad => rw [et] at qI; exact qI.elim
      | ok b s2 =>
        rw [et, nox_ok, ok_bind] at qI
        intro M3 r3
        cases b with
        | false =>
          rw [if_neg Bool.false_ne_true] at qI ⊢
          exact ⟨s2, r3.again k2.2 hl2, qI⟩
        | true =>
          rw [if_pos rfl] at qI ⊢
          refine hk c s2 sl2 M3 _ _ r3 ?_
          cases ek : fb s2 with
          | ex cl f' fs' => rw [ek] at qI; exact qI.elim
          | bad => rw [ek] at qI; exact qI.elim
          | ok wk s2' =>
            rw [ek, nox_ok, ok_bind] at qI
            intro dk M3' r3'
            cases wk with
            | im xk =>
              obtain rfl := r3'.eq
              unfold keK at qI
              dsimp only at qI
              cases ekd : keyD dk with
              | none => rw [ekd] at qI; exact qI.elim
              | some key =>
                rw [ekd] at qI
                refine ⟨key, rfl, he c s2' sl2 M3' _ _ r3'.rel ?_⟩
                dsimp only at qI
                cases ee : fa s2' with
                | ex cl f' fs' => rw [ee] at qI; exact qI.elim
                | bad => rw [ee] at qI; exact qI.elim
                | ok w s3 =>
                  rw [ee, nox_ok, ok_bind] at qI
                  intro d M4 r4
                  cases w with
                  | im x =>
                    obtain rfl := r4.eq
                    unfold imK at qI
                    dsimp only at qI
                    by_cases hz : acc.length < 16777216
                    · rw [cif_pos hz] at qI
                      exact ⟨hz, s3, r4.rel.again k2.2 hl2, qI⟩
                    · rw [cif_neg hz] at qI; exact qI.elim
                  | _ => exact qI.elim
            | _ => exact qI.elim
  · obtain ⟨fsI, rI, qI⟩ := w
    rw [ok.n, List.drop_length] at qI
    exact hfin acc _ M' (r1.rest hv rI) qI
theorem dc_core {o : Bool} {tg : FG} {dg : DG} {vs : List Nat} {fin : List (Key × D) → Sl → R Sv} (hi : SimI fi di) (hg : SimG vs tg dg) (ht : SimT ta ua) (hk : SimE fb db) (he : SimE fa da)
    (c : Cz) (fs : Sl) (sl : Slots) (M : Mem) (ED : XD) (Q : DK) (r : Rel c fs sl M) (q : PoE c sl ED Q ((fi fs).bind fun xs s => if vs.all (free s) = true then (dcL vs tg ta fb fa xs s []).bind fun acc s2 => fin acc (restF s s2 vs) else .bad))
    (hfin : ∀ acc s M, Rel c s sl M → PoE c sl ED Q (fin acc s) → al o (.dic acc) M Q) : dDc o di vs dg ua db da sl M ED Q := by
  refine hi c fs sl M _ _ r ?_
  cases ei : fi fs with
  | ex cl f' fs' => rw [ei] at q; exact q
  | bad => rw [ei] at q; exact q.elim
  | ok xs fs1 =>
    rw [ei, ok_bind] at q
    intro it M1 r1 ok
    by_cases hv : vs.all (free fs1) = true
    · rw [if_pos hv] at q
      exact dc_core1 hg ht hk he (o := o) (ok.one c) r1 hv q hfin
    · rw [if_neg hv] at q; exact q.elim
theorem s_dc {tg : FG} {dg : DG} {vs : List Nat} (hi : SimI fi di) (hg : SimG vs tg dg) (ht : SimT ta ua) (hk : SimE fb db) (he : SimE fa da) : SimE (fDc fi vs tg ta fb fa) (dDc false di vs dg ua db da) := by
  intro c fs sl M ED Q r q
  exact dc_core (o := false) (fin := fun acc s2 => .ok (.im (.dic acc)) s2) hi hg ht hk he c fs sl M ED Q r q fun acc s M r q => q _ M (r.imI _)
theorem s_dcN {tg : FG} {dg : DG} {vs : List Nat} (hi : SimI fi di) (hg : SimG vs tg dg) (ht : SimT ta ua) (hk : SimE fb db) (he : SimE fa da) : SimE (fDcN fi vs tg ta fb fa) (dDc true di vs dg ua db da) := by
  intro c fs sl M ED Q r q
  exact dc_core (o := true) (fin := fun acc s2 => .ok (.dic acc) s2) hi hg ht hk he c fs sl M ED Q r q fun acc s M r q => al_new (n := .dic acc) rfl r q
/-! ### x[i] = v, x op= e, a, b = e1, e2 -/
@[simp] noncomputable def setF (k d : D) : Sv → Option Sv
  | .lst xs => (match k with | .int i => (match ixN xs.length i with | some j => some (.lst (xs.set j d)) | none => none) | _ => none)
  | .dic kvs => (match k with
    | .int i => cif (kvs.length < 16777216) (some (.dic (putD kvs (.inl i) d))) (none)
    | .str x => cif (kvs.length < 16777216) (some (.dic (putD kvs (.inr x) d))) (none)
    | _ => none)
  | _ => none
@[simp] noncomputable def fSetIx (i : Nat) (ix v : FE) (s : Sl) : O := (v s).thn fun w s => imS w fun d => match s[i]? with
  | some (some _) => (ix s).thn fun wk s => imS wk fun k => (match s[i]? with
    | some (some sv) => (match setF k d sv with | some sv' => .nx (s.set i (some sv')) | none => .bad)
    | _ => .bad)
  | _ => .bad
theorem s_setIx {i : Nat} (hv : SimE fa da) (hi : SimE fb db) : SimS np (fSetIx i fb fa) (dSetIx da (dVar i) db) := by
  intro c hc Dd fs sl M r q
  refine hv c fs sl M _ _ r (poE_st q fun w fs1 e q d M1 r1 => ?_)
  cases w with
  | im x =>
    obtain rfl := r1.eq
    unfold imS at q
    dsimp only at q
    split at q
    · rename_i sv0 e0
      obtain ⟨E, r1'⟩ := r1.rel
      obtain ⟨x0, h1, h2⟩ := r1'.slt i _ e0
      refine ⟨x0, h1, hi c fs1 sl M1 _ _ r1.rel (poE_st q fun wk fs2 e q k M2 r2 => ?_)⟩
      cases wk with
      | im y =>
        obtain rfl := r2.eq
        dsimp only at q
        split at q
        · rename_i sv e3
          cases sv with
          | lst xs =>
            obtain ⟨p, t, g1, g2, g3⟩ := r2.rel.lst e3
            rw [h1] at g1; cases g1
            refine ⟨t, _, g2, ?_⟩
            unfold setF at q
            dsimp only at q
            cases k with
            | int ii =>
              dsimp only at q
              cases ej : ixN xs.length ii with
              | none => rw [ej] at q; exact q.elim
              | some j => rw [ej] at q; exact ⟨j, ej, q _ _ (g3 _)⟩
            | _ => exact q.elim
          | dic kvs =>
            obtain ⟨p, t, g1, g2, g3⟩ := r2.rel.dic e3
            rw [h1] at g1; cases g1
            refine ⟨t, _, g2, ?_⟩
            unfold setF at q
            dsimp only at q
            cases k with
            | int ii =>
              dsimp only at q
              by_cases hz : kvs.length < 16777216
              · rw [cif_pos hz] at q; exact ⟨hz, q _ _ (g3 _)⟩
              · rw [cif_neg hz] at q; exact q.elim
            | str ii =>
              dsimp only at q
              by_cases hz : kvs.length < 16777216
              · rw [cif_pos hz] at q; exact ⟨hz, q _ _ (g3 _)⟩
              · rw [cif_neg hz] at q; exact q.elim
            | _ => exact q.elim
          | _ => exact q.elim
        · exact q.elim
      | _ => exact q.elim
    · exact q.elim
  | _ => exact q.elim
@[simp] def fAug (i : Nat) (f : D → D → Option D) (b : FO) (s : Sl) : O := match s[i]? with
  | some (some _) => (b s).thn fun h s => (match look i s, h s with
    | some x, some y => (match f x y with | some z => .nx (s.set i (some (.im z))) | none => .bad)
    | _, _ => .bad)
  | _ => .bad
theorem s_aug {i : Nat} {rd : D → D → Mem → DK → Prop} {f : D → D → Option D} (hf : OpF rd f) (hb : SimO ob db) : SimS np (fAug i f ob) (dAug i rd db) := by
  intro c hc Dd fs sl M r q
  unfold fAug at q
  split at q
  · rename_i sv0 e0
    obtain ⟨E, r'⟩ := r
    obtain ⟨x0, h1, h2⟩ := r'.slt i _ e0
    refine ⟨x0, h1, hb c fs sl M _ _ ⟨E, r'⟩ (poO_st q fun g fs1 e q y M1 r1 l1 => ?_)⟩
    split at q
    · rename_i x' y' gx gy
      refine look_vw r1 gx h1 (l1 fs1 M1 y' _ r1 gy ?_)
      cases ef : f x' y' with
      | some z => rw [ef] at q; exact hf _ _ _ _ _ ef (q _ M1 (r1.set i z))
      | none => rw [ef] at q; exact q.elim
    · exact q.elim
  · exact q.elim
@[simp] def fPar (i j : Nat) (a : FA) (s : Sl) : O := (a s).thn fun ds s => match ds with
  | [v, w] => .nx ((s.set i (some (.im v))).set j (some (.im w)))
  | _ => .bad
theorem s_par {i j : Nat} (ha : SimA as dr) : SimS np (fPar i j as) (dPar i j dr) := by
  intro c hc Dd fs sl M r q
  refine ha c fs sl M _ _ r (poA_st q fun ds fs1 e q M1 r1 => ?_)
  split at q
  · rename_i v w
    exact ⟨v, w, rfl, q _ M1 ((r1.set i v).set j w)⟩
  · exact q.elim
/-! ### dicts: get, setdefault, clear -/
@[simp] def fGet2 (a : FO) (b c : FE) (s : Sl) : R Sv := (a s).bind fun g s => match g s with
  | some (.dic _) => (b s).bind fun w s => imK w fun y => (c s).bind fun w s => imK w fun z => (match g s, keyD y with
    | some (.dic kvs), some k => .ok (.im ((lookD kvs k).getD z)) s
    | _, _ => .bad)
  | _ => .bad
theorem s_get2 (ha : SimO oa da) (hb : SimE fb db) (hc : SimE fc dc) : SimE (fGet2 oa fb fc) (dGet2 da db dc) := by
  intro c fs sl M ED Q r q
  refine ha c fs sl M ED _ r (poO_cases q fun g fs1 e q x M1 r1 l1 => ?_)
  split at q
  · rename_i kvs0 g0
    refine ⟨l1 fs1 M1 _ _ r1 g0 ⟨_, rfl⟩, hb c fs1 sl M1 ED _ r1 (poE_cases q fun w fs2 e q y M2 r2 => ?_)⟩
    cases w with
    | im y' =>
      obtain rfl := r2.eq
      unfold imK at q
      dsimp only at q
      refine hc c fs2 sl M2 ED _ r2.rel (poE_cases q fun w fs3 e q z M3 r3 => ?_)
      cases w with
      | im z' =>
        obtain rfl := r3.eq
        dsimp only at q
        split at q
        · rename_i kvs k g3 ek
          exact l1 fs3 M3 _ _ r3.rel g3 ⟨kvs, k, rfl, ek, q _ M3 (r3.rel.imI _)⟩
        · exact q.elim
      | _ => exact q.elim
    | _ => exact q.elim
  · exact q.elim
@[simp] noncomputable def fSetd (i : Nat) (b c : FE) (s : Sl) : R Sv := match s[i]? with
  | some (some (.dic _)) => (b s).bind fun w s => imK w fun y => (c s).bind fun w s => imK w fun z => (match s[i]?, keyD y with
    | some (some (.dic kvs)), some k => cif (kvs.length < 16777216) ((match lookD kvs k with | some d => .ok (.im d) s | none => .ok (.im z) (s.set i (some (.dic (putD kvs k z)))))) (.bad)
    | _, _ => .bad)
  | _ => .bad
theorem s_setd {i : Nat} (hb : SimE fb db) (hc : SimE fc dc) : SimE (fSetd i fb fc) (dSetd (dVar i) db dc) := by
  intro c fs sl M ED Q r q
  unfold fSetd at q
  split at q
  · rename_i kvs0 e0
    obtain ⟨p0, k0, h1, h2, h3⟩ := r.dic e0
    refine ⟨_, h1, ⟨k0, _, h2, _, rfl⟩, hb c fs sl M ED _ r (poE_cases q fun w fs2 e q y M2 r2 => ?_)⟩
    cases w with
    | im y' =>
      obtain rfl := r2.eq
      unfold imK at q
      dsimp only at q
      refine hc c fs2 sl M2 ED _ r2.rel (poE_cases q fun w fs3 e q z M3 r3 => ?_)
      cases w with
      | im z' =>
        obtain rfl := r3.eq
        dsimp only at q
        split at q
        · rename_i kvs k e3 ek
          obtain ⟨p, t, g1, g2, g3⟩ := r3.rel.dic e3
          rw [h1] at g1; cases g1
          by_cases hz : kvs.length < 16777216
          · rw [cif_pos hz] at q
            refine ⟨p0, t, kvs, k, rfl, g2, ek, hz, ?_⟩
            cases el : lookD kvs k with
            | some d => rw [el] at q; exact q _ M3 (r3.rel.imI _)
            | none => rw [el] at q; exact q _ _ ((g3 _).imI _)
          · rw [cif_neg hz] at q; exact q.elim
        · exact q.elim
      | _ => exact q.elim
    | _ => exact q.elim
  · exact q.elim
@[simp] def fClear (i : Nat) (s : Sl) : R Sv := match s[i]? with
  | some (some (.dic _)) => .ok (.im .non) (s.set i (some (.dic [])))
  | _ => .bad
theorem s_clear {i : Nat} : SimE (fClear i) (dClear (dVar i)) := by
  intro c fs sl M ED Q r q
  unfold fClear at q
  split at q
  · rename_i kvs e
    obtain ⟨p, k, h1, h2, h3⟩ := r.dic e
    exact ⟨_, h1, p, k, kvs, rfl, h2, q _ _ ((h3 _).imI _)⟩
  · exact q.elim
end
end F

/-! F9: operators and built-in functions, by values; making objects, == of own classes. -/
namespace F
open PySem PySem.Spec L2 OD
theorem ite_inv {α : Type} {p : Prop} [Decidable p] {a z : α} (h : (if p then some a else none) = some z) : p ∧ a = z := by
  by_cases hp : p
  · rw [if_pos hp] at h; exact ⟨hp, Option.some.inj h⟩
  · rw [if_neg hp] at h; cases h
@[simp] noncomputable def addF : D → D → Option D
  | .int i, .int j => some (.int (i + j))
  | .str x, .str y => cif (x.length + y.length ≤ 16777216) (some (.str (x ++ y))) (none)
  | .lst a, .lst b => cif (a.length + b.length ≤ 16777216) (some (.lst (a ++ b))) (none)
  | .tup a, .tup b => cif (a.length + b.length ≤ 16777216) (some (.tup (a ++ b))) (none)
  | _, _ => none
theorem addF_ok : OpF (addD false) addF := by
  intro x y z M Q h q
  cases x <;> cases y <;> first
    | (cases h; done)
    | (cases h; exact q)
    | (obtain ⟨hz, rfl⟩ := cif_inv h; exact ⟨hz, q⟩)
@[simp] def subF : D → D → Option D
  | .int i, .int j => some (.int (i - j))
  | _, _ => none
theorem subF_ok : OpF subD subF := by
  intro x y z M Q h q
  cases x <;> cases y <;> first | (cases h; done) | (cases h; exact q)
def mulSm (i j : Int) : Bool := (decide (-18446744073709551616 < i) && decide (i < 18446744073709551616)) || (decide (-18446744073709551616 < j) && decide (j < 18446744073709551616)) || (decide (i.natAbs.log2 < 100000) && decide (j.natAbs.log2 < 100000))
theorem mulSm_ok {i j : Int} (h : mulSm i j = true) : MulOk i j := by
  unfold mulSm at h
  rw [Bool.or_eq_true, Bool.or_eq_true, Bool.and_eq_true, Bool.and_eq_true, Bool.and_eq_true] at h
  rcases h with (⟨a, b⟩ | ⟨a, b⟩) | ⟨a, b⟩
  · exact .inl (.inl ⟨by have := of_decide_eq_true a; omega, by have := of_decide_eq_true b; omega⟩)
  · exact .inl (.inr ⟨by have := of_decide_eq_true a; omega, by have := of_decide_eq_true b; omega⟩)
  · exact .inr (by have := of_decide_eq_true a; have := of_decide_eq_true b; unfold CMulW; omega)
theorem mulSm_l {i j : Int} (h : -18446744073709551616 < i) (h2 : i < 18446744073709551616) : mulSm i j = true := by
  unfold mulSm; rw [decide_eq_true h, decide_eq_true h2]; rfl
theorem mulSm_r {i j : Int} (h : -18446744073709551616 < j) (h2 : j < 18446744073709551616) : mulSm i j = true := by
  unfold mulSm; rw [decide_eq_true h, decide_eq_true h2]; simp
@[simp] noncomputable def mulF : D → D → Option D
  | .int i, .int j => if mulSm i j = true then some (.int (i * j)) else none
  | .lst a, .int k => cif (-9223372036854775808 ≤ k ∧ k < 9223372036854775808 ∧ a.length * k.toNat ≤ 16777216) (some (.lst (List.replicate k.toNat a).flatten)) (none)
  | _, _ => none
theorem mulF_ok : OpF (mulD false) mulF := by
  intro x y z M Q h q
  cases x <;> cases y <;> first
    | (cases h; done)
    | (obtain ⟨hz, rfl⟩ := ite_inv h; exact ⟨mulSm_ok hz, q⟩)
    | (obtain ⟨hz, rfl⟩ := cif_inv h; exact ⟨by have := hz.1; omega, by have := hz.2.1; omega, hz.2.2, q⟩)
@[simp] def divF : D → D → Option D
  | .int i, .int j => if 0 < j ∧ j.natAbs.log2 < 9000 then some (.int (i / j)) else none
  | _, _ => none
theorem divF_ok : OpF divD divF := by
  intro x y z M Q h q
  cases x <;> cases y <;> first
    | (cases h; done)
    | (obtain ⟨hz, rfl⟩ := ite_inv h; exact ⟨hz, q⟩)
@[simp] def modF : D → D → Option D
  | .int i, .int j => if 0 < j then some (.int (i % j)) else none
  | _, _ => none
theorem modF_ok : OpF modD modF := by
  intro x y z M Q h q
  cases x <;> cases y <;> first
    | (cases h; done)
    | (obtain ⟨hz, rfl⟩ := ite_inv h; exact ⟨hz, q⟩)
@[simp] noncomputable def powF : D → D → Option D
  | .int i, .int j => cif (0 ≤ j ∧ j ≤ 1000000 ∧ i.natAbs < 18446744073709551616) (some (.int (i ^ j.toNat))) (none)
  | _, _ => none
theorem powF_ok : OpF powD powF := by
  intro x y z M Q h q
  cases x <;> cases y <;> first
    | (cases h; done)
    | (obtain ⟨hz, rfl⟩ := cif_inv h; exact ⟨hz, q⟩)
@[simp] def ordF (f : Int → Int → Bool) (g : List Nat → List Nat → Bool) : D → D → Option D
  | .int i, .int j => some (.bl (f i j))
  | .str x, .str y => some (.bl (g x.cps.toList y.cps.toList))
  | _, _ => none
abbrev ltF := ordF (fun i j => decide (i < j)) (fun x y => decide (x < y))
abbrev leF := ordF (fun i j => decide (i ≤ j)) (fun x y => !decide (y < x))
abbrev gtF := ordF (fun i j => decide (j < i)) (fun x y => decide (y < x))
abbrev geF := ordF (fun i j => decide (j ≤ i)) (fun x y => !decide (x < y))
theorem ordF_ok {f : Int → Int → Bool} {g : List Nat → List Nat → Bool} : OpF (ordD f g) (ordF f g) := by
  intro x y z M Q h q
  cases x <;> cases y <;> first | (cases h; done) | (cases h; exact q)
@[simp] def negF : D → Option D
  | .int i => some (.int (-i))
  | _ => none
theorem negF_ok : UnF negD negF := by
  intro x z M Q h q
  cases x <;> first | (cases h; done) | (cases h; exact q)
/-- == of data -/
def eqW (x y : D) : Option Bool := match eqS x y with
  | some c => some c
  | none => (match toPy x, toPy y with
    | some a, some b => if (SeqAt.shaped a && SeqAt.shaped b) = true then some (PyData.eqv a b) else none
    | _, _ => none)
@[simp] def eqF (n : Bool) (x y : D) : Option D := (eqW x y).map fun c => .bl (xorB n c)
@[simp] theorem xorB_f (c : Bool) : xorB false c = c := rfl
@[simp] theorem xorB_t (c : Bool) : xorB true c = !c := rfl
@[simp] theorem eqW_int (i j : Int) : eqW (.int i) (.int j) = some (decide (i = j)) := rfl
@[simp] theorem eqW_str (i j : Str) : eqW (.str i) (.str j) = some (decide (i = j)) := rfl
@[simp] theorem eqW_bl (i j : Bool) : eqW (.bl i) (.bl j) = some (decide (i = j)) := rfl
@[simp] theorem eqW_non : eqW .non .non = some true := rfl
@[simp] theorem eqW_is (i : Int) (j : Str) : eqW (.int i) (.str j) = some false := rfl
@[simp] theorem eqW_si (i : Int) (j : Str) : eqW (.str j) (.int i) = some false := rfl
@[simp] theorem eqW_sn (j : Str) : eqW (.str j) .non = some false := rfl
@[simp] theorem eqW_in (j : Int) : eqW (.int j) .non = some false := rfl
theorem eqF_ok {n : Bool} : OpF (eqD n) (eqF n) := by
  intro x y z M Q h q
  unfold eqF eqW at h
  unfold eqD
  cases e : eqS x y with
  | some c => rw [e] at h; cases h; exact q
  | none =>
    rw [e] at h
    dsimp only at h
    split at h
    · rename_i a b ea eb
      by_cases hs : (SeqAt.shaped a && SeqAt.shaped b) = true
      · rw [if_pos hs] at h
        rw [Bool.and_eq_true] at hs
        cases h
        exact ⟨a, b, ea, eb, hs.1, hs.2, q⟩
      · rw [if_neg hs] at h; cases h
    · cases h
@[simp] def isNF (n : Bool) : D → D → Option D
  | x, .non => some (.bl (xorB n (isNonD x)))
  | _, _ => none
@[simp] theorem isNonD_non : isNonD .non = true := rfl
@[simp] theorem isNonD_int (i) : isNonD (.int i) = false := rfl
@[simp] theorem isNonD_str (i) : isNonD (.str i) = false := rfl
@[simp] theorem isNonD_bl (i) : isNonD (.bl i) = false := rfl
@[simp] theorem isNonD_tup (i) : isNonD (.tup i) = false := rfl
@[simp] theorem isNonD_lst (i) : isNonD (.lst i) = false := rfl
@[simp] theorem isNonD_dic (i) : isNonD (.dic i) = false := rfl
@[simp] theorem isNonD_obj (i f) : isNonD (.obj i f) = false := rfl
theorem isNF_ok {n : Bool} : OpF (isND n) (isNF n) := by
  intro x y z M Q h q
  cases y <;> first | (cases h; done) | (cases h; exact ⟨rfl, q⟩)
/-- in -/
def scals : List D → Option (List V)
  | [] => some []
  | d :: ds => match OD.scal d, scals ds with
    | some v, some vs => some (v :: vs)
    | _, _ => none
theorem scals_map : ∀ {ys : List D} {vs : List V}, scals ys = some vs → ys.map OD.scal = vs.map some := by
  intro ys
  induction ys with
  | nil => intro vs h; cases h; rfl
  | cons y ys ih =>
    intro vs h
    unfold scals at h
    split at h
    · rename_i v ws e1 e2
      cases h
      rw [List.map_cons, List.map_cons, e1, ih e2]
    · cases h
def inW (x : D) : D → Option Bool
  | .dic kvs => (keyD x).map fun k => (lookD kvs k).isSome
  | .lst ys => (match OD.scal x, scals ys with | some v, some vs => some (inV v vs) | _, _ => none)
  | .tup ys => (match OD.scal x, scals ys with | some v, some vs => some (inV v vs) | _, _ => none)
  | _ => none
@[simp] def inF (n : Bool) (x y : D) : Option D := (inW x y).map fun c => .bl (xorB n c)
theorem inF_ok {n : Bool} : OpF (inD n) (inF n) := by
  intro x y z M Q h q
  unfold inF at h
  cases e : inW x y with
  | none => rw [e] at h; cases h
  | some c =>
    rw [e] at h
    cases h
    unfold inW at e
    cases y with
    | dic kvs =>
      cases ek : keyD x with
      | none => rw [ek] at e; cases e
      | some k => rw [ek] at e; cases e; exact ⟨k, ek, q⟩
    | lst ys =>
      dsimp only at e
      split at e
      · rename_i v vs e1 e2; cases e; exact ⟨v, vs, e1, scals_map e2, q⟩
      · cases e
    | tup ys =>
      dsimp only at e
      split at e
      · rename_i v vs e1 e2; cases e; exact ⟨v, vs, e1, scals_map e2, q⟩
      · cases e
    | _ => cases e
/-- x[i] -/
@[simp] noncomputable def ixF : D → D → Option D
  | .lst xs, .int i => atI xs i
  | .tup xs, .int i => atI xs i
  | .str z, .int i => cif (z.length ≤ 16777216) ((atI z.cps.toList i).map fun c => .str ⟨#[c]⟩) (none)
  | .dic kvs, .int i => lookD kvs (.inl i)
  | .dic kvs, .str x => lookD kvs (.inr x)
  | _, _ => none
theorem ixF_ok : OpF ixD ixF := by
  intro x y z M Q h q
  cases x with
  | lst xs => cases y <;> first | (cases h; done) | exact ⟨z, h, q⟩
  | tup xs => cases y <;> first | (cases h; done) | exact ⟨z, h, q⟩
  | str s =>
    cases y with
    | int i =>
      replace h : (cif (s.length ≤ 16777216) ((atI s.cps.toList i).map fun c => D.str ⟨#[c]⟩) (none)) = some z := h
      by_cases hz : s.length ≤ 16777216
      · rw [cif_pos hz] at h
        cases e : atI s.cps.toList i with
        | none => rw [e] at h; cases h
        | some c => rw [e] at h; cases h; exact ⟨hz, c, e, q⟩
      · rw [cif_neg hz] at h; cases h
    | _ => cases h
  | dic kvs => cases y <;> first | (cases h; done) | exact ⟨z, h, q⟩
  | _ => cases h
/-! ### built-in functions -/
def oneF (f : D → Option D) : List D → Option D
  | [d] => f d
  | _ => none
def twoF (f : D → D → Option D) : List D → Option D
  | [d, e] => f d e
  | _ => none
@[simp] theorem oneF_1 (f : D → Option D) (d : D) : oneF f [d] = f d := rfl
@[simp] theorem twoF_2 (f : D → D → Option D) (d e : D) : twoF f [d, e] = f d e := rfl
theorem oneF_ok {f : D → Option D} {r : D → Mem → DK → Prop} (h : ∀ d z M Q, f d = some z → Q z M → r d M Q) : RcF (oneD r) (oneF f) := by
  intro ws z M Q e q
  match ws with
  | [d] => exact h d z M Q e q
  | [] => cases e
  | _ :: _ :: _ => cases e
theorem twoF_ok {f : D → D → Option D} {r : D → D → Mem → DK → Prop} (h : ∀ d d' z M Q, f d d' = some z → Q z M → r d d' M Q) : RcF (twoD r) (twoF f) := by
  intro ws z M Q e q
  match ws with
  | [d, d'] => exact h d d' z M Q e q
  | [] => cases e
  | [_] => cases e
  | _ :: _ :: _ :: _ => cases e
@[simp] noncomputable def len1 : D → Option D
  | .lst xs => some (.int xs.length)
  | .tup xs => some (.int xs.length)
  | .str z => cif (z.length ≤ 16777216) (some (.int z.length)) (none)
  | .dic kvs => some (.int kvs.length)
  | _ => none
noncomputable abbrev lenF := oneF len1
theorem lenF_ok : RcF lenD lenF := oneF_ok fun d z M Q h q => by
  cases d <;> first
    | (cases h; done)
    | (cases h; exact q)
    | (obtain ⟨hz, rfl⟩ := cif_inv h; exact ⟨hz, q⟩)
@[simp] def abs1 : D → Option D
  | .int i => some (.int (if i < 0 then -i else i))
  | _ => none
abbrev absF := oneF abs1
theorem absF_ok : RcF absD absF := oneF_ok fun d z M Q h q => by
  cases d <;> first | (cases h; done) | (cases h; exact q)
@[simp] def int1 : D → Option D
  | .int i => some (.int i)
  | .bl k => some (.int (if k then 1 else 0))
  | _ => none
abbrev intF := oneF int1
theorem intF_ok : RcF intD intF := oneF_ok fun d z M Q h q => by
  cases d <;> first | (cases h; done) | (cases h; exact q)
@[simp] def max2 : D → D → Option D
  | .int i, .int j => some (.int (if j > i then j else i))
  | _, _ => none
@[simp] def min2 : D → D → Option D
  | .int i, .int j => some (.int (if j < i then j else i))
  | _, _ => none
abbrev max2F := twoF max2
abbrev min2F := twoF min2
theorem max2F_ok : RcF max2D max2F := twoF_ok fun d d' z M Q h q => by
  cases d <;> cases d' <;> first | (cases h; done) | (cases h; exact q)
theorem min2F_ok : RcF min2D min2F := twoF_ok fun d d' z M Q h q => by
  cases d <;> cases d' <;> first | (cases h; done) | (cases h; exact q)
/-- rows of ints, of bools -/
def intsF : List D → Option (List Int)
  | [] => some []
  | .int i :: ds => (intsF ds).map (i :: ·)
  | _ => none
def blsF : List D → Option (List Bool)
  | [] => some []
  | .bl i :: ds => (blsF ds).map (i :: ·)
  | _ => none
@[simp] theorem intsF_map (ns : List Int) : intsF (ns.map .int) = some ns := by
  induction ns with
  | nil => rfl
  | cons n ns ih => show (intsF (ns.map .int)).map (n :: ·) = _; rw [ih]; rfl
@[simp] theorem blsF_map (ns : List Bool) : blsF (ns.map .bl) = some ns := by
  induction ns with
  | nil => rfl
  | cons n ns ih => show (blsF (ns.map .bl)).map (n :: ·) = _; rw [ih]; rfl
theorem intsF_inv : ∀ {ds : List D} {ns : List Int}, intsF ds = some ns → ds = ns.map .int := by
  intro ds
  induction ds with
  | nil => intro ns h; cases h; rfl
  | cons d ds ih =>
    intro ns h
    cases d with
    | int i =>
      replace h : (intsF ds).map (i :: ·) = some ns := h
      cases e : intsF ds with
      | none => rw [e] at h; cases h
      | some ms => rw [e] at h; cases h; rw [ih e]; rfl
    | _ => cases h
theorem blsF_inv : ∀ {ds : List D} {ns : List Bool}, blsF ds = some ns → ds = ns.map .bl := by
  intro ds
  induction ds with
  | nil => intro ns h; cases h; rfl
  | cons d ds ih =>
    intro ns h
    cases d with
    | bl i =>
      replace h : (blsF ds).map (i :: ·) = some ns := h
      cases e : blsF ds with
      | none => rw [e] at h; cases h
      | some ms => rw [e] at h; cases h; rw [ih e]; rfl
    | _ => cases h
@[simp] def sum1 : D → Option D
  | .lst xs => (intsF xs).map fun ns => .int ns.sum
  | _ => none
abbrev sumF := oneF sum1
theorem sumF_ok : RcF sumD sumF := oneF_ok fun d z M Q h q => by
  cases d with
  | lst xs =>
    replace h : (intsF xs).map (fun ns => D.int ns.sum) = some z := h
    cases e : intsF xs with
    | none => rw [e] at h; cases h
    | some ns => rw [e] at h; cases h; exact ⟨ns, intsF_inv e, q⟩
  | _ => cases h
@[simp] def all1 : D → Option D
  | .lst xs => (blsF xs).map fun ns => .bl (ns.all _root_.id)
  | _ => none
abbrev allF := oneF all1
theorem allF_ok : RcF allD allF := oneF_ok fun d z M Q h q => by
  cases d with
  | lst xs =>
    replace h : (blsF xs).map (fun ns => D.bl (ns.all _root_.id)) = some z := h
    cases e : blsF xs with
    | none => rw [e] at h; cases h
    | some ns => rw [e] at h; cases h; exact ⟨ns, blsF_inv e, q⟩
  | _ => cases h
def maxI : List Int → Int
  | [] => 0
  | x :: r => r.foldl max x
def minI : List Int → Int
  | [] => 0
  | x :: r => r.foldl min x
theorem foldl_max : ∀ (r : List Int) (x m : Int), m ∈ x :: r → (∀ y ∈ x :: r, y ≤ m) → r.foldl max x = m := by
  intro r
  induction r with
  | nil => intro x m h _; simpa using (by simpa using h : m = x).symm
  | cons y r ih =>
    intro x m h hm
    rw [List.foldl_cons]
    have hx := hm x (by simp)
    have hy := hm y (by simp)
    refine ih (max x y) m ?_ fun z hz => ?_
    · rcases List.mem_cons.mp h with rfl | h
      · rw [Int.max_eq_left hy]; simp
      · rcases List.mem_cons.mp h with rfl | h
        · rw [Int.max_eq_right hx]; simp
        · exact List.mem_cons_of_mem _ h
    · rcases List.mem_cons.mp hz with rfl | hz
      · omega
      · exact hm z (by simp [hz])
theorem foldl_min : ∀ (r : List Int) (x m : Int), m ∈ x :: r → (∀ y ∈ x :: r, m ≤ y) → r.foldl min x = m := by
  intro r
  induction r with
  | nil => intro x m h _; simpa using (by simpa using h : m = x).symm
  | cons y r ih =>
    intro x m h hm
    rw [List.foldl_cons]
    have hx := hm x (by simp)
    have hy := hm y (by simp)
    refine ih (min x y) m ?_ fun z hz => ?_
    · rcases List.mem_cons.mp h with rfl | h
      · rw [Int.min_eq_left hy]; simp
      · rcases List.mem_cons.mp h with rfl | h
        · rw [Int.min_eq_right hx]; simp
        · exact List.mem_cons_of_mem _ h
    · rcases List.mem_cons.mp hz with rfl | hz
      · omega
      · exact hm z (by simp [hz])
@[simp] def maxL1 : D → Option D
  | .lst xs => (intsF xs).bind fun ns => if 0 < ns.length then some (.int (maxI ns)) else none
  | _ => none
abbrev maxLF := oneF maxL1
theorem maxLF_ok : RcF maxLD maxLF := oneF_ok fun d z M Q h q => by
  cases d with
  | lst xs =>
    replace h : (intsF xs).bind (fun ns => if 0 < ns.length then some (D.int (maxI ns)) else none) = some z := h
    cases e : intsF xs with
    | none => rw [e] at h; cases h
    | some ns =>
      rw [e] at h
      replace h : (if 0 < ns.length then some (D.int (maxI ns)) else none) = some z := h
      by_cases hz : 0 < ns.length
      · rw [if_pos hz] at h
        cases h
        refine ⟨ns, intsF_inv e, hz, fun m h1 h2 => ?_⟩
        cases ns with
        | nil => cases h1
        | cons x r => rw [show maxI (x :: r) = m from foldl_max r x m h1 h2] at q; exact q
      · rw [if_neg hz] at h; cases h
  | _ => cases h
@[simp] def minL1 : D → Option D
  | .lst xs => (intsF xs).bind fun ns => if 0 < ns.length then some (.int (minI ns)) else none
  | _ => none
abbrev minLF := oneF minL1
theorem minLF_ok : RcF minLD minLF := oneF_ok fun d z M Q h q => by
  cases d with
  | lst xs =>
    replace h : (intsF xs).bind (fun ns => if 0 < ns.length then some (D.int (minI ns)) else none) = some z := h
    cases e : intsF xs with
    | none => rw [e] at h; cases h
    | some ns =>
      rw [e] at h
      replace h : (if 0 < ns.length then some (D.int (minI ns)) else none) = some z := h
      by_cases hz : 0 < ns.length
      · rw [if_pos hz] at h
        cases h
        refine ⟨ns, intsF_inv e, hz, fun m h1 h2 => ?_⟩
        cases ns with
        | nil => cases h1
        | cons x r => rw [show minI (x :: r) = m from foldl_min r x m h1 h2] at q; exact q
      · rw [if_neg hz] at h; cases h
  | _ => cases h
@[simp] def tuple1 : D → Option D
  | .lst xs => some (.tup xs)
  | .tup xs => some (.tup xs)
  | _ => none
abbrev tupleF := oneF tuple1
theorem tupleF_ok : RcF tupleD tupleF := oneF_ok fun d z M Q h q => by
  cases d <;> first | (cases h; done) | (cases h; exact q)
@[simp] def list1 : D → Option D
  | .lst xs => some (.lst xs)
  | .tup xs => some (.lst xs)
  | _ => none
abbrev listF := oneF list1
theorem listF_ok : RcF (listD false) listF := oneF_ok fun d z M Q h q => by
  cases d <;> first | (cases h; done) | (cases h; exact q)
@[simp] def listN : List D → Option N
  | [.lst xs] => some (.lst xs)
  | [.tup xs] => some (.lst xs)
  | _ => none
theorem listN_ok : ∀ ws n M Q, listN ws = some n → al true n M Q → listD true ws M Q := by
  intro ws n M Q h q
  unfold listN at h
  split at h <;> cases h <;> exact q
theorem listN_k : ∀ ws n, listN ws = some n → okN n = true := by
  intro ws n h
  unfold listN at h
  split at h <;> cases h <;> rfl
@[simp] def listK1 : D → Option D
  | .dic kvs => some (.lst (kvs.map fun kv => keyV kv.1))
  | _ => none
abbrev listKF := oneF listK1
theorem listKF_ok : RcF (listKD false) listKF := oneF_ok fun d z M Q h q => by
  cases d <;> first | (cases h; done) | (cases h; exact q)
@[simp] def isi1 : D → D → Option D
  | d, .ty n => (match tyD d with | some t => (kitB t n).map D.bl | none => none)
  | _, _ => none
abbrev isiF := twoF isi1
theorem isiF_ok : RcF isiD isiF := twoF_ok fun d d' z M Q h q => by
  cases d' with
  | ty n =>
    unfold isi1 at h
    dsimp only at h
    cases e : tyD d with
    | none => rw [e] at h; cases h
    | some t =>
      rw [e] at h
      dsimp only at h
      cases e2 : kitB t n with
      | none => rw [e2] at h; cases h
      | some b => rw [e2] at h; cases h; exact ⟨t, b, rfl, e2, q⟩
  | _ => unfold isi1 at h; cases h
@[simp] def isiO1 (rel : Value → Addr → Option Bool) : D → D → Option D
  | .obj C _, .cls A => (rel (.ref C) A).map D.bl
  | d, .cls A => (match tyD d with | some t => (rel (.type t) A).map D.bl | none => none)
  | _, _ => none
abbrev isiOF (rel : Value → Addr → Option Bool) := twoF (isiO1 rel)
theorem isiOF_ok {rel : Value → Addr → Option Bool} : RcF (isiOD rel) (isiOF rel) := twoF_ok fun d d' z M Q h q => by
  cases d' with
  | cls A =>
    cases d with
    | obj C fs =>
      replace h : (rel (.ref C) A).map D.bl = some z := h
      cases e2 : rel (.ref C) A with
      | none => rw [e2] at h; cases h
      | some b => rw [e2] at h; cases h; exact ⟨b, e2, q⟩
    | _ =>
      first
        | (cases h; done)
        | (obtain ⟨b, e, rfl⟩ := Option.map_eq_some_iff.mp h; exact ⟨_, b, rfl, e, q⟩)
  | _ => cases d <;> cases h
end F

/-! F10: dicts walked; objects handed out; objects made. -/
namespace OD
open PySem PySem.Spec L2
def lokN (td : Mem → Prop) (p : Addr) (od : Obj) (ws : List (Key × V)) (kvs : List (Key × D)) : Mem → Prop := fun M' => ∃ k : Nat, M'[k]? = some (p, .lok od ws kvs) ∧ td (M'.set k (p, .dic kvs))
/-- for as long as t runs a dict is locked -/
def dLockSN (td : DS) : DS := fun Dd sl M => ∃ (p : Addr) (kvs : List (Key × D)) (k : Nat), M[k]? = some (p, .dic kvs) ∧ ∀ (od : Obj) (ws : List (Key × V)),
  td { nx := fun sl' => lokN (Dd.nx sl') p od ws kvs, rt := fun d => lokN (Dd.rt d) p od ws kvs, bk := fun sl' => lokN (Dd.bk sl') p od ws kvs, ct := fun sl' => lokN (Dd.ct sl') p od ws kvs, ex := fun _ => NoX } sl (M.set k (p, .lok od ws kvs))
def dLockEN (td : DE) : DE := fun sl M ED Q => ∃ (p : Addr) (kvs : List (Key × D)) (k : Nat), M[k]? = some (p, .dic kvs) ∧ ∀ (od : Obj) (ws : List (Key × V)), td sl (M.set k (p, .lok od ws kvs)) NoX fun d => lokN (Q d) p od ws kvs
section
variable {X : Cx} {E : L2.St → XK} {K : PySem.W.Frag}
theorem sim_lockSN {t : TS} {td : DS} (s : OD.SimS K E t td) : OD.SimS K E (tLock t) (dLockSN td) := by
  intro S0 sl M σ H Dd Dn ok l h
  obtain ⟨p, kvs, k, e, h⟩ := h
  obtain ⟨ws, h1, h2⟩ := ok.mem.at_ _ (List.mem_of_getElem? e)
  refine ⟨p, .dK ws, h1, True.intro, fun od => ?_⟩
  obtain ⟨m1, x1⟩ := lock_in (od := od) ok.mem e h2
  refine s S0 sl _ σ _ _ _ (ok.ext m1 x1) ⟨fun sl' M' σ' H' k' x' q => ?_, fun d M' v H' m' x' r q => ?_, fun sl' M' σ' H' k' x' q => ?_, fun sl' M' σ' H' k' x' q => ?_, fun _ _ _ _ _ _ => XL.no⟩ (h od ws)
  · obtain ⟨j, q1, q2⟩ := q
    obtain ⟨g1, g2, g3⟩ := lock_out k'.mem q1
    exact ⟨g1, l.nx sl' _ σ' _ (k'.ext g2 g3) ((x1.trans x').trans g3) q2⟩
  · obtain ⟨j, q1, q2⟩ := q
    obtain ⟨g1, g2, g3⟩ := lock_out m' q1
    exact ⟨g1, l.rt d _ v _ g2 ((x1.trans x').trans g3) (r.ext g3) q2⟩
  · obtain ⟨j, q1, q2⟩ := q
    obtain ⟨g1, g2, g3⟩ := lock_out k'.mem q1
    exact ⟨g1, l.bk sl' _ σ' _ (k'.ext g2 g3) ((x1.trans x').trans g3) q2⟩
  · obtain ⟨j, q1, q2⟩ := q
    obtain ⟨g1, g2, g3⟩ := lock_out k'.mem q1
    exact ⟨g1, l.ct sl' _ σ' _ (k'.ext g2 g3) ((x1.trans x').trans g3) q2⟩
theorem sim_lockEN {t : TE} {td : DE} (s : OD.SimE K E t td) : OD.SimE K E (tLockE t) (dLockEN td) := by
  intro S0 sl M σ H Q QD ED ok xl h l
  obtain ⟨p, kvs, k, e, h⟩ := h
  obtain ⟨ws, h1, h2⟩ := ok.mem.at_ _ (List.mem_of_getElem? e)
  refine ⟨p, .dK ws, h1, True.intro, fun od => ?_⟩
  obtain ⟨m1, x1⟩ := lock_in (od := od) ok.mem e h2
  refine s S0 sl _ σ _ _ _ NoX (ok.ext m1 x1) XL.no (h od ws) fun d M' v H' m' x' r q => ?_
  obtain ⟨j, q1, q2⟩ := q
  obtain ⟨g1, g2, g3⟩ := lock_out m' q1
  exact ⟨g1, l d _ v _ g2 ((x1.trans x').trans g3) (r.ext g3) q2⟩
theorem ds_lockN {st : Stmt} {td : DS} (h : DSx X E st td) : DSx X E st (dLockSN td) := by
  obtain ⟨t, p, s⟩ := h
  exact ⟨_, ps_lock p, sim_lockSN s⟩
theorem de_lockN {e : Expr} {td : DE} (h : DEx X E e td) : DEx X E e (dLockEN td) := by
  obtain ⟨t, p, s⟩ := h
  exact ⟨_, pe_lock p, sim_lockEN s⟩
def diKeysN (da : DE) : DI := fun sl M ED RD => da sl M ED fun x M1 => ∃ (p : Addr) (k : Nat) (od : Obj) (ws : List (Key × V)) (kvs : List (Key × D)), x = .ref p ∧ M1[k]? = some (p, .lok od ws kvs) ∧ RD (itKeys kvs fun M' => (p, N.lok od ws kvs) ∈ M') M1
theorem di_keysN {tg e : Expr} {da : DE} (h : DEx X E e da) : DIx X E tg e (diKeysN da) := by
  obtain ⟨t, p, s⟩ := h
  refine ⟨_, pi_keys p, fun S0 sl M σ H R RD ED k xl hd l => s S0 sl M σ H _ _ ED k xl hd fun d M1 v H1 m1 x1 r1 q1 => ?_⟩
  obtain ⟨a, j, od, ws, kvs, rfl, e, q⟩ := q1
  cases r1
  obtain ⟨h1, h2⟩ := m1.at_ _ (List.mem_of_getElem? e)
  refine ⟨a, od, rfl, .inl ⟨ws, h1, l _ M1 _ H1 m1 x1 (fun S1 M' H' mk m x g => ?_) q⟩⟩
  obtain ⟨g1, g2⟩ := m.at_ _ g
  have hl : ws.length = kvs.length := g2.length
  refine ⟨fun i hi => ?_, g1, by rw [hl]; exact Nat.le_refl _⟩
  have hi' : i < kvs.length := hi
  refine ⟨⟨g1, by rw [hl]; exact hi'⟩, fun y H'' hy => ?_⟩
  obtain ⟨rfl, kk, vv, e1, rfl⟩ := hy
  refine ⟨m, .refl _ _, ?_⟩
  have e2 := congrArg (fun z => z[i]?) (RepsK.at_ g2)
  simp only [List.getElem?_map] at e2
  rw [e1] at e2
  show Rep X.K _ _ _ (((kvs[i]?).map fun kv => keyV kv.1).getD .non)
  rw [List.getElem?_eq_getElem hi'] at e2 ⊢
  have e3 : kk = (kvs[i]).1 := by simpa using e2
  show Rep _ _ _ _ (keyV (kvs[i]).1)
  rw [← e3]
  exact rep_key kk
end
end OD
namespace F
open PySem PySem.Spec L2 OD
section
variable {fa fb fc : FE} {oa ob oc : FO} {da db dc : DE} {ta tb : FT} {ua ub : DT} {as : FA} {dr : DA} {fi : FI} {di : DI} {np : Nat} {s1 s2 : FS} {t1 t2 : DS}
/-- no slot but i holds a dict walked as i -/
def noLok (i : Nat) : Nat → Sl → Bool
  | _, [] => true
  | j, o :: s => (match o with | some (.lok a _) => a != i || j == i | _ => true) && noLok i (j + 1) s
theorem noLok_at {i : Nat} : ∀ {s : Sl} {k : Nat}, noLok i k s = true → ∀ j a kvs, s[j]? = some (some (.lok a kvs)) → k + j ≠ i → a ≠ i := by
  intro s
  induction s with
  | nil => intro k _ j a kvs e; cases e
  | cons o s ih =>
    intro k h j a kvs e n
    unfold noLok at h
    rw [Bool.and_eq_true] at h
    cases j with
    | zero =>
      replace e : some o = some (some (Sv.lok a kvs)) := e
      cases e
      have h1 := h.1
      dsimp only at h1
      rw [Bool.or_eq_true] at h1
      rcases h1 with h1 | h1
      · exact bne_iff_ne.mp h1
      · exact absurd (beq_iff_eq.mp h1) n
    | succ j => exact ih h.2 j a kvs e (by omega)
@[simp] theorem noLok_nil (i k) : noLok i k [] = true := rfl
@[simp] theorem noLok_none (i k s) : noLok i k (none :: s) = noLok i (k + 1) s := by simp [noLok]
@[simp] theorem noLok_im (i k s d) : noLok i k (some (.im d) :: s) = noLok i (k + 1) s := by simp [noLok]
@[simp] theorem noLok_lst (i k s d) : noLok i k (some (.lst d) :: s) = noLok i (k + 1) s := by simp [noLok]
@[simp] theorem noLok_dic (i k s d) : noLok i k (some (.dic d) :: s) = noLok i (k + 1) s := by simp [noLok]
@[simp] theorem noLok_ins (i k s C d) : noLok i k (some (.ins C d) :: s) = noLok i (k + 1) s := by simp [noLok]
@[simp] theorem noLok_pot (i k s d) : noLok i k (some (.pot d) :: s) = noLok i (k + 1) s := by simp [noLok]
@[simp] theorem noLok_lok (i k s a d) : noLok i k (some (.lok a d) :: s) = ((a != i || k == i) && noLok i (k + 1) s) := rfl
theorem lk_wf {lk : Lk} {i : Nat} {x : Addr × N} : ∀ a e, (if a = i then some x else lk.tg a) = some e → e ∈ x :: lk.fr := fun a e h => by
  by_cases z : a = i
  · rw [if_pos z] at h; cases h; simp
  · rw [if_neg z] at h; exact List.mem_cons_of_mem _ (lk.wf a e h)
/-- the relation when a dict is locked -/
theorem Rel.lock {c : Cz} {fs : Sl} {sl : Slots} {M : Mem} (r : Rel c fs sl M) {i : Nat} {kvs : List (Key × D)} (e : fs[i]? = some (some (.dic kvs))) (nl : noLok i 0 fs = true) : ∃ p k, sl[i]? = some (some (.ref p)) ∧ M[k]? = some (p, .dic kvs) ∧
    ∀ od ws, Rel { c with lk := ⟨(p, .lok od ws kvs) :: c.lk.fr, fun b => if b = i then some (p, .lok od ws kvs) else c.lk.tg b, lk_wf⟩ } (fs.set i (some (.lok i kvs))) sl (M.set k (p, .lok od ws kvs)) ∧
      ∀ w d fs' sl' M', isLok w = false → RelW { c with lk := ⟨(p, .lok od ws kvs) :: c.lk.fr, fun b => if b = i then some (p, .lok od ws kvs) else c.lk.tg b, lk_wf⟩ } fs' sl' M' w d → fs'[i]? = some (some (.lok i kvs)) → noLok i 0 fs' = true →
        ∃ k', M'[k']? = some (p, .lok od ws kvs) ∧ RelW c (fs'.set i (some (.dic kvs))) sl' (M'.set k' (p, .dic kvs)) w d := by
  have r0 := r
  obtain ⟨E, r⟩ := r
  obtain ⟨d, hd, p, rfl, ep⟩ := r.slt i _ e
  have kE : keys (E (i + 1)) = [p] := by rw [ep]; rfl
  obtain ⟨k, hk⟩ := List.getElem?_of_mem (r.sub (i + 1) (p, .dic kvs) (by rw [ep]; simp))
  have hil : i < fs.length := (List.getElem?_eq_some_iff.mp e).1
  refine ⟨p, k, hd, hk, fun od ws => ⟨?_, fun w d fs' sl' M' hw r' e' nl' => ?_⟩⟩
  · have hkey : keys (M.set k (p, .lok od ws kvs)) = keys M := keys_set hk
    have keep : ∀ e2 ∈ M, e2.1 ≠ p → e2 ∈ M.set k (p, .lok od ws kvs) := fun e2 hm np => by
      obtain ⟨t, ht⟩ := List.getElem?_of_mem hm
      have hne : k ≠ t := fun w => by rw [← w, hk] at ht; cases ht; exact np rfl
      exact List.mem_of_getElem? (by rw [List.getElem?_set_ne hne]; exact ht)
    have e0 : ∀ j, (if j = i + 1 then [] else E j) = [] ∨ (j ≠ i + 1 ∧ (if j = i + 1 then [] else E j) = E j) := fun j => by
      by_cases z : j = i + 1
      · exact .inl (by rw [if_pos z])
      · exact .inr ⟨z, by rw [if_neg z]⟩
    refine ⟨fun j => if j = i + 1 then [] else E j, by rw [hkey]; exact r.nd, by rw [List.length_set]; exact r.len, by rw [if_neg (by omega)]; exact r.tmp, fun j sv e2 => ?_, fun j e2 he => ?_, fun j => ?_, fun j k2 a n ha hb => ?_, fun j hj => ?_, fun j a hj ha => ?_, ?_, fun e2 he => ?_, fun e2 he j hj => ?_⟩
    · by_cases z : i = j
      · subst z
        rw [List.getElem?_set_self hil] at e2
        cases e2
        exact ⟨_, hd, by rw [if_pos rfl], p, od, ws, rfl, by show (if i = i then some _ else _) = _; rw [if_pos rfl]⟩
      · rw [List.getElem?_set_ne z] at e2
        obtain ⟨d', g1, g2⟩ := r.slt j sv e2
        refine ⟨d', g1, ?_⟩
        rw [if_neg (by omega)]
        cases sv with
        | lok a q =>
          obtain ⟨y1, p', od', ws', y2, y3⟩ := g2
          exact ⟨y1, p', od', ws', y2, by show (if a = i then some _ else _) = _; rw [if_neg (noLok_at nl j a q e2 (by omega))]; exact y3⟩
        | _ => exact g2
    · rcases e0 j with z | ⟨z1, z⟩ <;> rw [z] at he
      · cases he
      · exact keep e2 (r.sub j e2 he) fun w => r.dis j (i + 1) p z1 (List.mem_map.mpr ⟨e2, he, w⟩) (by rw [kE]; simp)
    · rcases e0 j with z | ⟨z1, z⟩ <;> rw [z]
      · exact List.nodup_nil
      · exact r.ndE j
    · rcases e0 j with z | ⟨z1, z⟩ <;> rw [z] at ha
      · cases ha
      · rcases e0 k2 with y | ⟨y1, y⟩ <;> rw [y] at hb
        · cases hb
        · exact r.dis j k2 a n ha hb
    · rcases e0 (j + 1) with z | ⟨z1, z⟩
      · exact .inl z
      · rw [z]; exact r.pin j hj
    · rcases e0 j with z | ⟨z1, z⟩ <;> rw [z] at ha
      · cases ha
      · exact r.frs j a hj ha
    · have hp := r.pre
      unfold Pre at hp ⊢
      rw [keys_take, hkey, ← keys_take]
      exact hp
    · rcases List.mem_cons.mp he with rfl | he
      · exact List.mem_of_getElem? (List.getElem?_set_self (List.getElem?_eq_some_iff.mp hk).1)
      · exact keep e2 (r.lks e2 he) fun w => r.lkd e2 he (i + 1) (by rw [kE, w]; simp)
    · rcases e0 j with z | ⟨z1, z⟩ <;> rw [z] at hj
      · cases hj
      · rcases List.mem_cons.mp he with rfl | he
        · exact r.dis j (i + 1) p z1 hj (by rw [kE]; simp)
        · exact r.lkd e2 he j hj
  · obtain ⟨E', r'⟩ := r'
    obtain ⟨d', hd', y1, p', od', ws', rfl, y3⟩ := r'.slt i _ e'
    have hp : p' = p := by
      replace y3 : (if i = i then some (p, N.lok od ws kvs) else c.lk.tg i) = some (p', _) := y3
      rw [if_pos rfl] at y3
      cases y3
      rfl
    subst hp
    have hm : (p', N.lok od ws kvs) ∈ M' := r'.lks _ (by simp)
    obtain ⟨k', hk'⟩ := List.getElem?_of_mem hm
    have hkey : keys (M'.set k' (p', .dic kvs)) = keys M' := keys_set hk'
    have pE : ∀ j, p' ∉ keys (E' j) := fun j => r'.lkd (p', .lok od ws kvs) (by simp) j
    have keep : ∀ e2 ∈ M', e2.1 ≠ p' → e2 ∈ M'.set k' (p', .dic kvs) := fun e2 hm np => by
      obtain ⟨t, ht⟩ := List.getElem?_of_mem hm
      have hne : k' ≠ t := fun w => by rw [← w, hk'] at ht; cases ht; exact np rfl
      exact List.mem_of_getElem? (by rw [List.getElem?_set_ne hne]; exact ht)
    have kk : keys [(p', N.dic kvs)] = [p'] := rfl
    refine ⟨k', hk', fun j => if j = i + 1 then [(p', .dic kvs)] else E' j, by rw [hkey]; exact r'.nd, by rw [List.length_set]; exact r'.len, by rw [if_neg (by omega)]; exact ent_lk (ent_nolk r'.tmp hw), fun j sv e2 => ?_, fun j e2 he => ?_, fun j => ?_, fun j k2 a n ha hb => ?_, fun j hj => ?_, fun j a hj ha => ?_, ?_, fun e2 he => ?_, fun e2 he j hj => ?_⟩
    · by_cases z : i = j
      · subst z
        rw [List.getElem?_set_self (List.getElem?_eq_some_iff.mp e').1] at e2
        cases e2
        exact ⟨_, hd', p', rfl, by rw [if_pos rfl]⟩
      · rw [List.getElem?_set_ne z] at e2
        obtain ⟨d', g1, g2⟩ := r'.slt j sv e2
        refine ⟨d', g1, ?_⟩
        rw [if_neg (by omega)]
        cases sv with
        | lok a q =>
          obtain ⟨y1, p2, od2, ws2, y2, y3⟩ := g2
          have ai : a ≠ i := noLok_at nl' j a q e2 (by omega)
          replace y3 : (if a = i then some (p', N.lok od ws kvs) else c.lk.tg a) = some (p2, _) := y3
          rw [if_neg ai] at y3
          exact ⟨y1, p2, od2, ws2, y2, y3⟩
        | _ => exact g2
    · by_cases z : j = i + 1
      · rw [if_pos z] at he; simp at he; rw [he]
        exact List.mem_of_getElem? (List.getElem?_set_self (List.getElem?_eq_some_iff.mp hk').1)
      · rw [if_neg z] at he
        exact keep e2 (r'.sub j e2 he) fun w => pE j (List.mem_map.mpr ⟨e2, he, w⟩)
    · by_cases z : j = i + 1
      · rw [if_pos z, kk]; simp
      · rw [if_neg z]; exact r'.ndE j
    · by_cases z : j = i + 1
      · rw [if_pos z, kk] at ha
        simp at ha
        rw [if_neg (by omega)] at hb
        exact pE k2 (ha ▸ hb)
      · rw [if_neg z] at ha
        by_cases y : k2 = i + 1
        · rw [if_pos y, kk] at hb
          simp at hb
          exact pE j (hb ▸ ha)
        · rw [if_neg y] at hb
          exact r'.dis j k2 a n ha hb
    · by_cases z : j + 1 = i + 1
      · have ji : j = i := by omega
        subst ji
        rw [if_pos rfl, kk]
        rcases r.pin j hj with h | h
        · rw [h] at kE; cases kE
        · exact .inr (kE ▸ h)
      · rw [if_neg z]; exact r'.pin j hj
    · by_cases z : j = i + 1
      · rw [if_pos z, kk] at ha
        simp at ha
        rw [ha]
        exact r.frs (i + 1) p' (by rw [← z]; exact hj) (by rw [kE]; simp)
      · rw [if_neg z] at ha; exact r'.frs j a hj ha
    · have hp := r'.pre
      unfold Pre at hp ⊢
      rw [keys_take, hkey, ← keys_take]
      exact hp
    · refine keep e2 (r'.lks e2 (List.mem_cons_of_mem _ he)) fun w => ?_
      exact r.lkd e2 he (i + 1) (by rw [kE, w]; simp)
    · by_cases z : j = i + 1
      · rw [if_pos z, kk] at hj
        simp at hj
        exact r.lkd e2 he (i + 1) (by rw [kE, hj]; simp)
      · rw [if_neg z] at hj; exact r'.lkd e2 (List.mem_cons_of_mem _ he) j hj
end
end F

/-! F11: dicts walked; objects handed out; objects made; == of own classes. -/
namespace OD
open PySem PySem.Spec L2
/-- an object is made, by an __init__ that is handed data alone -/
def dMakeN (C : Addr) (F : FD) (o : Bool) (dr : DA) : DE := fun sl M ED Q => dr sl M ED fun ds M1 => ∀ x dx, x ∉ keys M1 →
  F (.ref x :: ds) [(x, .ins C dx [])] (fun _ _ _ => False) fun d Mc => d = .non ∧ frzD (!o) (.ref x) (putM [M1.length] (M1 ++ [(x, .ins C dx [])]) Mc) Q
section
variable {X : Cx} {E : L2.St → XK} {K : PySem.W.Frag} {a : Expr} {es : List Expr} {pos p : Pos} {dr : DA} {F : FD} {x : Str} {ps : List Str} {k : Nat}
theorem make_N {C : Addr} {o : Bool} {sl : Slots} {M : Mem} {ED : XD} {Q : DK} (h : dMakeN C F o dr sl M ED Q) (mono : ∀ (P P' : List D → Mem → Prop), (∀ ds M, P ds M → P' ds M) → dr sl M ED P → dr sl M ED P') : dMake C F [] o dr sl M ED Q := by
  refine mono _ _ (fun ds M1 h => ⟨rfl, fun x dx hx => ?_⟩) h
  have e : sel [M1.length] (M1 ++ [(x, N.ins C dx [])]) = [(x, .ins C dx [])] := sel_new (ks := []) rfl
  rw [e]
  exact h x dx hx
end
end OD
namespace F
open PySem PySem.Spec L2 OD
section
variable {fa fb fc : FE} {oa ob oc : FO} {da db dc : DE} {ta tb : FT} {ua ub : DT} {as : FA} {dr : DA} {fi : FI} {di : DI} {np : Nat} {s1 s2 : FS} {t1 t2 : DS}
/-! ### dicts walked -/
def keysL (kvs : List (Key × D)) : List D := kvs.map fun kv => keyV kv.1
open Classical in
noncomputable def unl (i : Nat) (kvs : List (Key × D)) (s : Sl) : Option Sl := if s[i]? = some (some (.lok i kvs)) ∧ noLok i 0 s = true then some (s.set i (some (.dic kvs))) else none
theorem unl_ok {i : Nat} {kvs : List (Key × D)} {s : Sl} (h : s[i]? = some (some (.lok i kvs))) (h2 : noLok i 0 s = true) : unl i kvs s = some (s.set i (some (.dic kvs))) := if_pos ⟨h, h2⟩
theorem unl_inv {i : Nat} {kvs : List (Key × D)} {s s' : Sl} (h : unl i kvs s = some s') : s[i]? = some (some (.lok i kvs)) ∧ noLok i 0 s = true ∧ s' = s.set i (some (.dic kvs)) := by
  unfold unl at h
  by_cases hp : s[i]? = some (some (.lok i kvs)) ∧ noLok i 0 s = true
  · rw [if_pos hp] at h; cases h; exact ⟨hp.1, hp.2, rfl⟩
  · rw [if_neg hp] at h; cases h
noncomputable def unlO (i : Nat) (kvs : List (Key × D)) : O → O
  | .nx s => (match unl i kvs s with | some s => .nx s | none => .bad)
  | .rt w s => (match w, unl i kvs s with | .im d, some s => .rt (.im d) s | _, _ => .bad)
  | _ => .bad
@[simp] theorem unlO_nx (i kvs s) : unlO i kvs (.nx s) = (match unl i kvs s with | some s => .nx s | none => .bad) := rfl
@[simp] theorem unlO_rt (i kvs d s) : unlO i kvs (.rt (.im d) s) = (match unl i kvs s with | some s => .rt (.im d) s | none => .bad) := by
  show (match Sv.im d, unl i kvs s with | .im d, some s => O.rt (.im d) s | _, _ => .bad) = _
  cases unl i kvs s <;> rfl
@[simp] noncomputable def fForK (i : Nat) (tg : FG) (body : FS) (s : Sl) : O := match s[i]? with
  | some (some (.dic kvs)) => if noLok i 0 s = true then unlO i kvs (forL tg body (keysL kvs) (s.set i (some (.lok i kvs)))) else .bad
  | _ => .bad
theorem itKeys_ok {c : Cz} {p : Addr} {od : Obj} {ws : List (Key × V)} {kvs : List (Key × D)} (h : (p, N.lok od ws kvs) ∈ c.lk.fr) : ItOk1 c (itKeys kvs fun M' => (p, N.lok od ws kvs) ∈ M') (keysL kvs) :=
  ⟨by show kvs.length = _; unfold keysL; rw [List.length_map], fun i hi => by
    unfold keysL at hi ⊢
    rw [List.length_map] at hi
    rw [List.getElem_map]
    show ((kvs[i]?).map fun kv => keyV kv.1).getD .non = _
    rw [List.getElem?_eq_getElem hi]
    rfl, fun fs sl M r => by obtain ⟨E, r⟩ := r; exact r.lks _ h⟩
theorem s_forK {i : Nat} {tg : FG} {dg : DG} {vs : List Nat} (hg : SimG vs tg dg) (hb : SimS np s1 t1) : SimS np (fForK i tg s1) (dLockSN (dFor (diKeysN (dVar i)) dg t1)) := by
  intro c hc Dd fs sl M r q
  unfold fForK at q
  split at q
  · rename_i kvs e
    by_cases nl : noLok i 0 fs = true
    · rw [if_pos nl] at q
      obtain ⟨p, k, h1, h2, h3⟩ := r.lock e nl
      refine ⟨p, kvs, k, h2, fun od ws => ?_⟩
      obtain ⟨g1, g2⟩ := h3 od ws
      refine ⟨_, h1, p, k, od, ws, kvs, rfl, List.getElem?_set_self (List.getElem?_eq_some_iff.mp h2).1, ?_⟩
      refine for_core (np := np) (c := { c with lk := ⟨(p, .lok od ws kvs) :: c.lk.fr, fun b => if b = i then some (p, .lok od ws kvs) else c.lk.tg b, lk_wf⟩ }) hg hb hc (itKeys_ok (List.mem_cons_self ..)) g1 ?_
      cases eo : forL tg s1 (keysL kvs) (fs.set i (some (.lok i kvs))) with
      | nx s' =>
        rw [eo, unlO_nx] at q
        cases eu : unl i kvs s' with
        | none => rw [eu] at q; exact q.elim
        | some s2 =>
          rw [eu] at q
          obtain ⟨u1, u2, rfl⟩ := unl_inv eu
          intro sl' M' r'
          obtain ⟨k', k1, k2⟩ := g2 _ _ s' sl' M' rfl r' u1 u2
          exact ⟨k', k1, q sl' _ k2⟩
      | rt w s' =>
        rw [eo] at q
        cases w with
        | im d =>
          rw [unlO_rt] at q
          cases eu : unl i kvs s' with
          | none => rw [eu] at q; exact q.elim
          | some s2 =>
            rw [eu] at q
            obtain ⟨u1, u2, rfl⟩ := unl_inv eu
            intro d' sl' M' r'
            obtain ⟨k', k1, k2⟩ := g2 _ _ s' sl' M' rfl r'.rel u1 u2
            obtain rfl := r'.eq
            exact ⟨k', k1, q _ sl' _ (k2.im _)⟩
        | _ => exact q.elim
      | bk s' => rw [eo] at q; exact q.elim
      | ct s' => rw [eo] at q; exact q.elim
      | ex cl f s' => rw [eo] at q; exact q.elim
      | bad => rw [eo] at q; exact q.elim
    · rw [if_neg nl] at q; exact q.elim
  · exact q.elim
@[simp] noncomputable def fLcK (i : Nat) (vs : List Nat) (tg : FG) (t : FT) (e : FE) (s : Sl) : R Sv := match s[i]? with
  | some (some (.dic kvs)) => if noLok i 0 s = true ∧ vs.all (free (s.set i (some (.lok i kvs)))) = true then (nox (lcL vs tg t e (keysL kvs) (s.set i (some (.lok i kvs))) [])).bind fun acc s2 => (match unl i kvs (restF (s.set i (some (.lok i kvs))) s2 vs) with | some s3 => .ok (.im (.lst acc)) s3 | none => .bad) else .bad
  | _ => .bad
theorem nox_bind {α : Type} {c : Cz} {sl : Slots} {ED : XD} {Q : DK} {r : R α} {f : α → Sl → R Sv} (q : PoE c sl ED Q ((nox r).bind f)) (h : ∀ a s, r = .ok a s → PoE c sl ED Q (f a s) → False) : False := by
  cases r with
  | ok a s => exact h a s rfl q
  | ex _ _ _ => exact q
  | bad => exact q
theorem s_lcK {i : Nat} {tg : FG} {dg : DG} {vs : List Nat} (hg : SimG vs tg dg) (ht : SimT ta ua) (he : SimE fa da) : SimE (fLcK i vs tg ta fa) (dLockEN (dLc false (diKeysN (dVar i)) vs dg ua da)) := by
  intro c fs sl M ED Q r q
  unfold fLcK at q
  split at q
  · rename_i kvs e
    by_cases nl : noLok i 0 fs = true ∧ vs.all (free (fs.set i (some (.lok i kvs)))) = true
    · rw [if_pos nl] at q
      obtain ⟨p, k, h1, h2, h3⟩ := r.lock e nl.1
      refine ⟨p, kvs, k, h2, fun od ws => ?_⟩
      obtain ⟨g1, g2⟩ := h3 od ws
      refine ⟨_, h1, p, k, od, ws, kvs, rfl, List.getElem?_set_self (List.getElem?_eq_some_iff.mp h2).1, ?_⟩
      let c' : Cz := { c with lk := ⟨(p, .lok od ws kvs) :: c.lk.fr, fun b => if b = i then some (p, .lok od ws kvs) else c.lk.tg b, lk_wf⟩ }
      refine lc_core1 (o := false) (c := c') (ED := NoX) (fin := fun acc s2 => match unl i kvs s2 with | some s3 => .ok (.im (.lst acc)) s2 | none => .bad) (Q := fun d M => lokN (Q d) p od ws kvs M) hg ht he (itKeys_ok (List.mem_cons_self ..)) g1 nl.2 ?_ fun acc s M' r' q' => ?_
      · cases el : lcL vs tg ta fa (keysL kvs) (fs.set i (some (.lok i kvs))) [] with
        | ok acc s2 =>
          rw [el, nox_ok, ok_bind] at q
          rw [ok_bind]
          cases eu : unl i kvs (restF (fs.set i (some (.lok i kvs))) s2 vs) with
          | none => rw [eu] at q; exact q.elim
          | some s3 =>
            rw [eu] at q
            obtain ⟨u1, u2, rfl⟩ := unl_inv eu
            dsimp only
            intro d M' r'
            obtain ⟨k', k1, k2⟩ := g2 _ _ _ sl M' rfl r'.rel u1 u2
            obtain rfl := r'.eq
            exact ⟨k', k1, q _ _ (k2.im _)⟩
        | ex cl f s2 => rw [el] at q; exact q.elim
        | bad => rw [el] at q; exact q.elim
      · split at q'
        · exact q' _ M' (r'.imI _)
        · exact q'.elim
    · rw [if_neg nl] at q; exact q.elim
  · exact q.elim
@[simp] noncomputable def fDcK (i : Nat) (vs : List Nat) (tg : FG) (t : FT) (kf e : FE) (s : Sl) : R Sv := match s[i]? with
  | some (some (.dic kvs)) => if noLok i 0 s = true ∧ vs.all (free (s.set i (some (.lok i kvs)))) = true then (nox (dcL vs tg t kf e (keysL kvs) (s.set i (some (.lok i kvs))) [])).bind fun acc s2 => (match unl i kvs (restF (s.set i (some (.lok i kvs))) s2 vs) with | some s3 => .ok (.im (.dic acc)) s3 | none => .bad) else .bad
  | _ => .bad
theorem s_dcK {i : Nat} {tg : FG} {dg : DG} {vs : List Nat} (hg : SimG vs tg dg) (ht : SimT ta ua) (hk : SimE fb db) (he : SimE fa da) : SimE (fDcK i vs tg ta fb fa) (dLockEN (dDc false (diKeysN (dVar i)) vs dg ua db da)) := by
  intro c fs sl M ED Q r q
  unfold fDcK at q
  split at q
  · rename_i kvs e
    by_cases nl : noLok i 0 fs = true ∧ vs.all (free (fs.set i (some (.lok i kvs)))) = true
    · rw [if_pos nl] at q
      obtain ⟨p, k, h1, h2, h3⟩ := r.lock e nl.1
      refine ⟨p, kvs, k, h2, fun od ws => ?_⟩
      obtain ⟨g1, g2⟩ := h3 od ws
      refine ⟨_, h1, p, k, od, ws, kvs, rfl, List.getElem?_set_self (List.getElem?_eq_some_iff.mp h2).1, ?_⟩
      let c' : Cz := { c with lk := ⟨(p, .lok od ws kvs) :: c.lk.fr, fun b => if b = i then some (p, .lok od ws kvs) else c.lk.tg b, lk_wf⟩ }
      refine dc_core1 (o := false) (c := c') (ED := NoX) (fin := fun acc s2 => match unl i kvs s2 with | some s3 => .ok (.im (.dic acc)) s2 | none => .bad) (Q := fun d M => lokN (Q d) p od ws kvs M) hg ht hk he (itKeys_ok (List.mem_cons_self ..)) g1 nl.2 ?_ fun acc s M' r' q' => ?_
      · cases el : dcL vs tg ta fb fa (keysL kvs) (fs.set i (some (.lok i kvs))) [] with
        | ok acc s2 =>
          rw [el, nox_ok, ok_bind] at q
          rw [ok_bind]
          cases eu : unl i kvs (restF (fs.set i (some (.lok i kvs))) s2 vs) with
          | none => rw [eu] at q; exact q.elim
          | some s3 =>
            rw [eu] at q
            obtain ⟨u1, u2, rfl⟩ := unl_inv eu
            dsimp only
            intro d M' r'
            obtain ⟨k', k1, k2⟩ := g2 _ _ _ sl M' rfl r'.rel u1 u2
            obtain rfl := r'.eq
            exact ⟨k', k1, q _ _ (k2.im _)⟩
        | ex cl f s2 => rw [el] at q; exact q.elim
        | bad => rw [el] at q; exact q.elim
      · split at q'
        · exact q' _ M' (r'.imI _)
        · exact q'.elim
    · rw [if_neg nl] at q; exact q.elim
  · exact q.elim
/-! ### return x, x owned, to be owned by the caller -/
theorem Rel.take {c : Cz} {fs : Sl} {sl : Slots} {M : Mem} (r : Rel c fs sl M) {i : Nat} {sv : Sv} (e : fs[i]? = some (some sv)) (hi : c.np ≤ i) : ∃ d, sl[i]? = some (some d) ∧ RelW c (fs.set i (some (.im .non))) (sl.set i (some .non)) M sv d := by
  obtain ⟨E, r⟩ := r
  obtain ⟨d, h1, h2⟩ := r.slt i sv e
  have hil : i < fs.length := (List.getElem?_eq_some_iff.mp e).1
  have e0 : ∀ j, (j = 0 ∧ (if j = 0 then E (i + 1) else if j = i + 1 then [] else E j) = E (i + 1)) ∨ (j ≠ 0 ∧ (if j = 0 then E (i + 1) else if j = i + 1 then [] else E j) = []) ∨ (j ≠ 0 ∧ j ≠ i + 1 ∧ (if j = 0 then E (i + 1) else if j = i + 1 then [] else E j) = E j) := fun j => by
    by_cases z : j = 0
    · exact .inl ⟨z, by rw [if_pos z]⟩
    · by_cases z2 : j = i + 1
      · exact .inr (.inl ⟨z, by rw [if_neg z, if_pos z2]⟩)
      · exact .inr (.inr ⟨z, z2, by rw [if_neg z, if_neg z2]⟩)
  refine ⟨d, h1, fun j => if j = 0 then E (i + 1) else if j = i + 1 then [] else E j, r.nd, by rw [List.length_set, List.length_set, r.len], by rw [if_pos rfl]; exact h2, fun j sv2 e2 => ?_, fun j e2 he => ?_, fun j => ?_, fun j k a n ha hb => ?_, fun j hj => ?_, fun j a hj ha => ?_, r.pre, r.lks, fun e2 he j hj => ?_⟩
  · rw [if_neg (Nat.succ_ne_zero j)]
    by_cases z : i = j
    · subst z
      rw [List.getElem?_set_self hil] at e2
      cases e2
      exact ⟨.non, List.getElem?_set_self (by rw [← r.len]; exact hil), by rw [if_pos rfl]; exact ⟨rfl, rfl⟩⟩
    · rw [List.getElem?_set_ne z] at e2
      obtain ⟨d', g1, g2⟩ := r.slt j sv2 e2
      exact ⟨d', by rw [List.getElem?_set_ne z]; exact g1, by rw [if_neg (by omega)]; exact g2⟩
  · rcases e0 j with ⟨z, k⟩ | ⟨z, k⟩ | ⟨z, z', k⟩ <;> rw [k] at he
    · exact r.sub _ e2 he
    · cases he
    · exact r.sub _ e2 he
  · rcases e0 j with ⟨z, k⟩ | ⟨z, k⟩ | ⟨z, z', k⟩ <;> rw [k]
    · exact r.ndE _
    · exact List.nodup_nil
    · exact r.ndE _
  · rcases e0 j with ⟨z, k1⟩ | ⟨z, k1⟩ | ⟨z, z', k1⟩ <;> rw [k1] at ha
    · rcases e0 k with ⟨y, k2⟩ | ⟨y, k2⟩ | ⟨y, y', k2⟩ <;> rw [k2] at hb
      · exact n (by rw [z, y])
      · cases hb
      · exact r.dis (i + 1) k a (Ne.symm y') ha hb
    · cases ha
    · rcases e0 k with ⟨y, k2⟩ | ⟨y, k2⟩ | ⟨y, y', k2⟩ <;> rw [k2] at hb
      · exact r.dis j (i + 1) a z' ha hb
      · cases hb
      · exact r.dis j k a n ha hb
  · rw [if_neg (Nat.succ_ne_zero j), if_neg (by omega)]
    exact r.pin j hj
  · rcases e0 j with ⟨z, k⟩ | ⟨z, k⟩ | ⟨z, z', k⟩ <;> rw [k] at ha
    · exact r.frs (i + 1) a (.inr (by omega)) ha
    · cases ha
    · exact r.frs j a (hj.elim (fun w => absurd w z) .inr) ha
  · rcases e0 j with ⟨z, k⟩ | ⟨z, k⟩ | ⟨z, z', k⟩ <;> rw [k] at hj
    · exact r.lkd e2 he _ hj
    · cases hj
    · exact r.lkd e2 he _ hj
@[simp] def fRetO (i : Nat) (s : Sl) : O := match s[i]? with
  | some (some sv) => .rt sv (s.set i (some (.im .non)))
  | _ => .bad
theorem s_retO {i : Nat} (hi : np ≤ i) : SimS np (fRetO i) (dRet false (dVar i)) := by
  intro c hc Dd fs sl M r q
  unfold fRetO at q
  split at q
  · rename_i sv e
    obtain ⟨d, h1, h2⟩ := r.take e (by rw [hc]; exact hi)
    exact ⟨d, h1, q d _ M h2⟩
  · exact q.elim
end
end F

/-! F12: objects made; == of own classes; fields set; a def keeps its function. -/
namespace F
open PySem PySem.Spec L2 OD
section
variable {fa fb fc : FE} {oa ob oc : FO} {da db dc : DE} {ta tb : FT} {ua ub : DT} {as : FA} {dr : DA} {fi : FI} {di : DI} {np : Nat} {s1 s2 : FS} {t1 t2 : DS}
/-- objects are made -/
@[simp] def made (r : Rs) : Option (Addr × List (Str × D)) := match r with
  | .ok (.im .non) (.ins C fs :: _) => some (C, fs)
  | _ => none
@[simp] def fMake (C : Addr) (n : Nat) (ff : FF) (as : FA) (s : Sl) : R Sv := (as s).bind fun ds s => if ds.length + 1 = n then (match made (ff (.ins C [] :: ds.map .im)) with | some (C', fs) => .ok (.im (.obj C' fs)) s | none => .bad) else .bad
@[simp] def fMakeN (C : Addr) (n : Nat) (ff : FF) (as : FA) (s : Sl) : R Sv := (as s).bind fun ds s => if ds.length + 1 = n then (match made (ff (.ins C [] :: ds.map .im)) with | some (C', fs) => .ok (.ins C' fs) s | none => .bad) else .bad
theorem ents_im : ∀ ds : List D, Ents (ds.map .im) ds (ds.map fun _ => []) := by
  intro ds
  induction ds with
  | nil => exact .nil
  | cons d ds ih => exact .cons ⟨rfl, rfl⟩ ih
theorem flat_nil {α : Type} : ∀ ds : List α, (ds.map fun _ => ([] : Mem)).flatten = [] := by
  intro ds
  induction ds with
  | nil => rfl
  | cons d ds ih => rw [List.map_cons, List.flatten_cons, ih]; rfl
theorem keys_nil {E : Mem} (h : keys E = []) : E = [] := by
  cases E with
  | nil => rfl
  | cons _ _ => cases h
theorem flat_keys : ∀ {Es Es' : List Mem}, Es'.map keys = Es.map keys → Es.flatten = [] → Es'.flatten = [] := by
  intro Es Es' h e
  apply keys_nil
  rw [keys_flatten, h, ← keys_flatten, e]
  rfl
theorem make_core {C : Addr} {ff : FF} {o : Bool} {fin : Addr → List (Str × D) → Sl → R Sv} (hr : SimA as dr) {c : Cz} {fs : Sl} {sl : Slots} {M : Mem} {ED : XD} {Q : DK} {n : Nat} (r : Rel c fs sl M)
    (q : PoE c sl ED Q ((as fs).bind fun ds s => if ds.length + 1 = n then (match made (ff (.ins C [] :: ds.map .im)) with | some (C', fs) => fin C' fs s | none => .bad) else .bad))
    (hfin : ∀ C' fs' s M x dx, x ∉ keys M → Rel c s sl M → PoE c sl ED Q (fin C' fs' s) → frzD (!o) (.ref x) (M ++ [(x, .ins C' dx fs')]) Q) : dMake C (fdN n ff) [] o dr sl M ED Q := by
  refine hr c fs sl M ED _ r ?_
  cases e : as fs with
  | ex cl f fs' => rw [e] at q; exact q
  | bad => rw [e] at q; exact q.elim
  | ok ds fs1 =>
    rw [e, ok_bind] at q
    intro M1 r1
    refine ⟨rfl, fun x dx hx => ?_⟩
    by_cases hn : ds.length + 1 = n
    · rw [if_pos hn] at q
      have es : sel [M1.length] (M1 ++ [(x, N.ins C dx [])]) = [(x, .ins C dx [])] := sel_new (ks := []) rfl
      rw [es]
      refine ⟨by simp [keys], .ins C [] :: ds.map .im, [(x, .ins C dx [])] :: ds.map fun _ => [], by simp [hn], .cons ⟨x, dx, rfl, rfl⟩ (ents_im ds), by rw [List.flatten_cons, flat_nil, List.append_nil], ?_⟩
      unfold made at q
      split at q
      · rename_i C' fs' em
        split at em
        · rename_i C2 fs2 outs er
          cases em
          rw [er]
          intro d Ew Es' g1 g2 g3
          obtain ⟨rfl, rfl⟩ := g3
          refine ⟨rfl, ?_⟩
          cases g1 with
          | cons h1 h2 =>
            rename_i E1 Es1
            obtain ⟨p, dx', hp, rfl⟩ := h1
            cases hp
            have e2 : Es1.flatten = [] := flat_keys (List.cons.inj g2).2 (flat_nil ds)
            rw [List.flatten_cons, e2, List.append_nil, List.append_nil]
            have ep : putM [M1.length] (M1 ++ [(x, N.ins C dx [])]) [(x, N.ins C' dx' fs')] = M1 ++ [(x, N.ins C' dx' fs')] := by
              show (M1 ++ [(x, N.ins C dx [])]).set M1.length (x, N.ins C' dx' fs') ++ [] = _
              rw [List.append_nil, List.set_append_right _ _ (Nat.le_refl _), Nat.sub_self]
              rfl
            rw [ep]
            exact hfin C' fs' fs1 M1 x dx' hx r1 q
        · cases em
      · exact q.elim
    · rw [if_neg hn] at q; exact q.elim
theorem s_make {C : Addr} {n : Nat} {ff : FF} (hr : SimA as dr) : SimE (fMake C n ff as) (dMake C (fdN n ff) [] false dr) := by
  intro c fs sl M ED Q r q
  refine make_core (o := false) (fin := fun C' fs s => .ok (.im (.obj C' fs)) s) hr r q fun C' fs' s M x dx hx r q => ?_
  refine ⟨M.length, .ins C' dx fs', by rw [List.getElem?_append_right (Nat.le_refl _), Nat.sub_self]; rfl, ?_⟩
  rw [List.eraseIdx_append_of_length_le (Nat.le_refl _), Nat.sub_self]
  show Q _ (M ++ [])
  rw [List.append_nil]
  exact q _ M (r.imI _)
theorem s_makeN {C : Addr} {n : Nat} {ff : FF} (hr : SimA as dr) : SimE (fMakeN C n ff as) (dMake C (fdN n ff) [] true dr) := by
  intro c fs sl M ED Q r q
  refine make_core (o := true) (fin := fun C' fs s => .ok (.ins C' fs) s) hr r q fun C' fs' s M x dx hx r q => ?_
  exact q _ _ (r.add (n := .ins C' dx fs') rfl hx)
/-- == of objects of own classes -/
@[simp] def eqRs (r : Rs) : Option Bool := match r with
  | .ok (.im (.bl b)) _ => some b
  | _ => none
@[simp] def eqO2 (PC : Addr → Addr → Bool) (ff : FF) (x y : D) : Option Bool := match x, y with
  | .obj C fs, .obj C' gs => if PC C C' = true then eqRs (ff [.im (.obj C fs), .im (.obj C' gs)]) else none
  | _, _ => none
@[simp] def fEqO (PC : Addr → Addr → Bool) (ff : FF) (n : Bool) (a b : FE) (s : Sl) : R Sv := (a s).bind fun w s => imK w fun x => (b s).bind fun w s => imK w fun y => (match eqO2 PC ff x y with | some b => .ok (.im (.bl (xorB n b))) s | none => .bad)
theorem s_eqO {PC : Addr → Addr → Bool} {P' : Addr → Addr → Prop} {ff : FF} {n : Bool} (hP : ∀ C C', PC C C' = true → P' C C') (ha : SimE fa da) (hb : SimE fb db) : SimE (fEqO PC ff n fa fb) (dEqO P' (fdN 2 ff) n da db) := by
  intro c fs sl M ED Q r q
  refine ha c fs sl M ED _ r (poE_cases q fun w fs1 e q x M1 r1 => ?_)
  cases w with
  | im x' =>
    obtain rfl := r1.eq
    unfold imK at q
    dsimp only at q
    refine hb c fs1 sl M1 ED _ r1.rel (poE_cases q fun w fs2 e q y M2 r2 => ?_)
    cases w with
    | im y' =>
      obtain rfl := r2.eq
      dsimp only at q
      split at q
      · rename_i b eb
        have q1 := q _ M2 (r2.rel.imI _)
        unfold eqO2 at eb
        split at eb
        · rename_i C fs' C' gs efa
          by_cases hp : PC C C' = true
          · rw [if_pos hp] at eb
            refine ⟨C, fs', C', gs, rfl, rfl, hP _ _ hp, ?_⟩
            refine ⟨List.nodup_nil, [.im (.obj C fs'), .im (.obj C' gs)], [[], []], rfl, .cons ⟨rfl, rfl⟩ (.cons ⟨rfl, rfl⟩ .nil), rfl, ?_⟩
            unfold eqRs at eb
            split at eb
            · rename_i b' outs er
              cases eb
              rw [er]
              intro d Ew Es' g1 g2 g3
              obtain ⟨rfl, rfl⟩ := g3
              refine ⟨b, rfl, ?_⟩
              rw [flat_keys g2 rfl, List.append_nil, List.append_nil]
              exact q1
            · cases eb
          · rw [if_neg hp] at eb; cases eb
        · cases eb
      · exact q.elim
    | _ => exact q.elim
  | _ => exact q.elim
/-- x.f = v -/
@[simp] def setFd (P : Addr → Bool) (f : Str) (d : D) : Sv → Option Sv
  | .ins C fs => if P C = true ∧ fs.length < 1000 then some (.ins C (putFD f d fs)) else none
  | _ => none
@[simp] def fSetF (P : Addr → Bool) (f : Str) (v : FE) (i : Nat) (s : Sl) : O := (v s).thn fun w s => imS w fun d => (match s[i]? with
  | some (some sv) => (match setFd P f d sv with | some sv' => .nx (s.set i (some sv')) | none => .bad)
  | _ => .bad)
theorem s_setF {P : Addr → Bool} {P' : Addr → Prop} {f : Str} {i : Nat} (hP : ∀ C, P C = true → P' C) (hv : SimE fa da) : SimS np (fSetF P f fa i) (dSetF P' f da (dVar i)) := by
  intro c hc Dd fs sl M r q
  refine hv c fs sl M _ _ r (poE_st q fun w fs1 e q d M1 r1 => ?_)
  cases w with
  | im x =>
    obtain rfl := r1.eq
    unfold imS at q
    dsimp only at q
    split at q
    · rename_i sv e0
      cases sv with
      | ins C fs' =>
        obtain ⟨p, k, dx, h1, h2, h3⟩ := r1.rel.ins e0
        refine ⟨_, h1, k, _, h2, C, dx, fs', rfl, ?_⟩
        unfold setFd at q
        dsimp only at q
        by_cases hp : P C = true ∧ fs'.length < 1000
        · rw [if_pos hp] at q
          exact ⟨hP _ hp.1, hp.2, q _ _ (h3 _)⟩
        · rw [if_neg hp] at q; exact q.elim
      | _ => exact q.elim
    · exact q.elim
  | _ => exact q.elim
end
/-- a def of the top, as its function -/
theorem DefOk.fn {P : Program} {w : World} {K : PySem.W.Frag} {mg : Str → Option Value} {base : Heap} {x : Str} {st : Stmt} {f : Addr} {fd : FuncData} {N ps : List Str} {k np nl : Nat} {body : FS} {td : DS}
    (Fn : Fun K x x st f fd) (m : mg x = some (.ref f)) (b : Binds K fd ps []) (S : FnScope N ps (defScope st)) (hp : ps.length = np) (hn : N.length = np + nl)
    (hder : ∀ (cdv : Value) (A : Around) (outer : List Env) (s : Shared) (H : Hp) (E : XK), Room k (A.deeper (PyProof.Rows.envOfC x (defScope st) s.heap.objs.size f cdv)) →
      DBx (cxOf CX0 P w K mg base N x (defScope st) f cdv A outer s H E).nox (fun _ => E0) (defBody st) td) (hs : SimS np body td) : DefOk P w K mg base (k + 1) x ps (fdN np (fDef np nl body)) :=
  .of Fn m b S (by rw [hp]; exact fdN_len) hder fun ds M ED QD h => run_ok (x := false) hn hs h.1 h.2 rfl rfl (fun z => nomatch z)
/-- a method of the top, as its function -/
theorem fn_fn {P : Program} {w : World} {K : PySem.W.Frag} {mg : Str → Option Value} {base : Heap} {x qual : Str} {st : Stmt} {f : Addr} {fd : FuncData} {N ps : List Str} {k np nl : Nat} {body : FS} {td : DS}
    (Fn : Fun K x qual st f fd) (S : FnScope N ps (defScope st)) (hp : ps.length = np) (hn : N.length = np + nl)
    (hder : ∀ (cdv : Value) (A : Around) (outer : List Env) (s : Shared) (H : Hp) (E : XK), Room k (A.deeper (PyProof.Rows.envOfC qual (defScope st) s.heap.objs.size f cdv)) →
      DBx (cxOf CX0 P w K mg base N qual (defScope st) f cdv A outer s H E).nox (fun _ => E0) (defBody st) td) (hs : SimS np body td) : FnOk P w K mg base CX0 (k + 1) f fd ps (spD K (fdN np (fDef np nl body))) :=
  fn_d Fn S (by rw [hp]; exact fdN_len) hder fun ds M ED QD h => run_ok (x := false) hn hs h.1 h.2 rfl rfl (fun z => nomatch z)
/-- the law -/
theorem law_fn {P : Program} {w : World} {K : PySem.W.Frag} {mg : Str → Option Value} {base : Heap} {x : Str} {st : Stmt} {f : Addr} {fd : FuncData} {N ps : List Str} {k nl : Nat} {body : FS} {td : DS}
    (Fn : Fun K x x st f fd) (S : FnScope N ps (defScope st)) (hp : ps.length = 1) (hn : N.length = 1 + nl)
    (hder : ∀ (cdv : Value) (A : Around) (outer : List Env) (s : Shared) (H : Hp) (E : XK), Room k (A.deeper (PyProof.Rows.envOfC x (defScope st) s.heap.objs.size f cdv)) →
      DBx (cxOf CX0 P w K mg base N x (defScope st) f cdv A outer s H E).nox (fun _ => E0) (defBody st) td) (hs : SimS 1 body td)
    (hl : ∀ ns : List Int, ns.length ≤ 63 → ∃ outs, fDef 1 nl body [.im (.scr ns)] = .ok (.im (.bl true)) outs) : FnOk P w K mg base CX0 (k + 1) f fd ps (spLaw K) :=
  law_ok (fn_d Fn S (by rw [hp]; exact fdLaw_len) hder fun ds M ED QD h => by
    obtain ⟨ns, rfl, rfl, h1, h2⟩ := h
    obtain ⟨outs, ho⟩ := hl ns h1
    refine run_ok (x := false) (ED := ED) hn hs List.nodup_nil ⟨[.im (.scr ns)], [[]], rfl, .cons ⟨rfl, rfl⟩ .nil, rfl, ?_⟩ rfl rfl (fun z => nomatch z)
    rw [ho]
    intro d Ew Es' g1 g2 g3
    obtain ⟨rfl, rfl⟩ := g3
    rw [flat_keys g2 rfl]
    exact h2)
end F

/-! F13: more of the same. -/
namespace F
open PySem PySem.Spec L2 OD
section
variable {fa fb fc : FE} {oa ob oc : FO} {da db dc : DE} {ta tb : FT} {ua ub : DT} {as : FA} {dr : DA} {fi : FI} {di : DI} {np : Nat} {s1 s2 : FS} {t1 t2 : DS}
theorem s_chain {rd rd' : D → D → Mem → DK → Prop} {f f' : D → D → Option D} (hf : OpF rd f) (hf' : OpF rd' f') (ha : SimO oa da) (hb : SimO ob db) (hc : SimO oc dc) : SimE (fChain f f' oa ob oc) (dChain rd rd' da db dc) := by
  intro c fs sl M ED Q r q
  refine ha c fs sl M ED _ r (poO_cases q fun g fs1 e q x M1 r1 l1 => ?_)
  refine hb c fs1 sl M1 ED _ r1 (poO_cases q fun h fs2 e q y M2 r2 l2 => ?_)
  split at q
  · rename_i x' y' gx hy
    refine l1 fs2 M2 x' _ r2 gx (l2 fs2 M2 y' _ r2 hy ?_)
    split at q
    · rename_i ef
      refine hf _ _ _ _ _ ef ⟨true, rfl, ?_⟩
      rw [if_pos rfl]
      refine hc c fs2 sl M2 ED _ r2 (poO_cases q fun k fs3 e q z M3 r3 l3 => ?_)
      split at q
      · rename_i y2 z2 hy2 hz2
        refine l2 fs3 M3 y2 _ r3 hy2 (l3 fs3 M3 z2 _ r3 hz2 ?_)
        cases ef' : f' y2 z2 with
        | some v => rw [ef'] at q; exact hf' _ _ _ _ _ ef' (q v M3 (r3.imI v))
        | none => rw [ef'] at q; exact q.elim
      · exact q.elim
    · rename_i ef
      refine hf _ _ _ _ _ ef ⟨false, rfl, ?_⟩
      rw [if_neg Bool.false_ne_true]
      exact q _ M2 (r2.imI _)
    · exact q.elim
  · exact q.elim
@[simp] noncomputable def iaddF : D → D → Option D
  | .int i, .int j => some (.int (i + j))
  | .str x, .str y => cif (x.length + y.length ≤ 16777216) (some (.str (x ++ y))) (none)
  | _, _ => none
theorem iaddF_ok : OpF iaddD iaddF := by
  intro x y z M Q h q
  cases x <;> cases y <;> first
    | (cases h; done)
    | (cases h; exact q)
    | (obtain ⟨hz, rfl⟩ := cif_inv h; exact ⟨hz, q⟩)
/-! operators that make owned objects -/
@[simp] def fOpN (f : D → D → Option N) (a b : FO) (s : Sl) : R Sv := (a s).bind fun g s => (b s).bind fun h s => match g s, h s with
  | some x, some y => optN (f x y) s
  | _, _ => .bad
theorem s_opN {rd : D → D → Mem → DK → Prop} {f : D → D → Option N} (hf : ∀ x y n, f x y = some n → okN n = true ∧ ∀ M Q, al true n M Q → rd x y M Q) (ha : SimO oa da) (hb : SimO ob db) : SimE (fOpN f oa ob) (dOp rd da db) := by
  intro c fs sl M ED Q r q
  refine ha c fs sl M ED _ r (poO_cases q fun g fs1 e q x M1 r1 l1 => ?_)
  refine hb c fs1 sl M1 ED _ r1 (poO_cases q fun h fs2 e q y M2 r2 l2 => ?_)
  split at q
  · rename_i x' y' gx hy
    refine l1 fs2 M2 x' _ r2 gx (l2 fs2 M2 y' _ r2 hy ?_)
    cases ef : f x' y' with
    | some n => rw [ef] at q; exact (hf _ _ _ ef).2 _ _ (al_new (hf _ _ _ ef).1 r2 q)
    | none => rw [ef] at q; exact q.elim
  · exact q.elim
@[simp] noncomputable def mulFN : D → D → Option N
  | .lst a, .int k => cif (-9223372036854775808 ≤ k ∧ k < 9223372036854775808 ∧ a.length * k.toNat ≤ 16777216) (some (.lst (List.replicate k.toNat a).flatten)) (none)
  | _, _ => none
theorem mulFN_ok : ∀ x y n, mulFN x y = some n → okN n = true ∧ ∀ M Q, al true n M Q → mulD true x y M Q := by
  intro x y n h
  cases x <;> cases y <;> first
    | (cases h; done)
    | (obtain ⟨hz, rfl⟩ := cif_inv h; exact ⟨rfl, fun M Q q => ⟨by have := hz.1; omega, by have := hz.2.1; omega, hz.2.2, q⟩⟩)
@[simp] noncomputable def addFN : D → D → Option N
  | .lst a, .lst b => cif (a.length + b.length ≤ 16777216) (some (.lst (a ++ b))) (none)
  | _, _ => none
theorem addFN_ok : ∀ x y n, addFN x y = some n → okN n = true ∧ ∀ M Q, al true n M Q → addD true x y M Q := by
  intro x y n h
  cases x <;> cases y <;> first
    | (cases h; done)
    | (obtain ⟨hz, rfl⟩ := cif_inv h; exact ⟨rfl, fun M Q q => ⟨hz, q⟩⟩)
/-- a dict made of a dict that is walked, owned -/
@[simp] noncomputable def fDcKN (i : Nat) (vs : List Nat) (tg : FG) (t : FT) (kf e : FE) (s : Sl) : R Sv := match s[i]? with
  | some (some (.dic kvs)) => if noLok i 0 s = true ∧ vs.all (free (s.set i (some (.lok i kvs)))) = true then (nox (dcL vs tg t kf e (keysL kvs) (s.set i (some (.lok i kvs))) [])).bind fun acc s2 => (match unl i kvs (restF (s.set i (some (.lok i kvs))) s2 vs) with | some s3 => .ok (.dic acc) s3 | none => .bad) else .bad
  | _ => .bad
theorem s_dcKN {i : Nat} {tg : FG} {dg : DG} {vs : List Nat} (hg : SimG vs tg dg) (ht : SimT ta ua) (hk : SimE fb db) (he : SimE fa da) : SimE (fDcKN i vs tg ta fb fa) (dLockEN (dDc true (diKeysN (dVar i)) vs dg ua db da)) := by
  intro c fs sl M ED Q r q
  unfold fDcKN at q
  split at q
  · rename_i kvs e
    by_cases nl : noLok i 0 fs = true ∧ vs.all (free (fs.set i (some (.lok i kvs)))) = true
    · rw [if_pos nl] at q
      obtain ⟨p, k, h1, h2, h3⟩ := r.lock e nl.1
      refine ⟨p, kvs, k, h2, fun od ws => ?_⟩
      obtain ⟨g1, g2⟩ := h3 od ws
      refine ⟨_, h1, p, k, od, ws, kvs, rfl, List.getElem?_set_self (List.getElem?_eq_some_iff.mp h2).1, ?_⟩
      let c' : Cz := { c with lk := ⟨(p, .lok od ws kvs) :: c.lk.fr, fun b => if b = i then some (p, .lok od ws kvs) else c.lk.tg b, lk_wf⟩ }
      refine dc_core1 (o := false) (c := c') (ED := NoX) (fin := fun acc s2 => match unl i kvs s2 with | some s3 => .ok (.dic acc) s2 | none => .bad) (Q := fun d M => lokN (Q d) p od ws kvs M) hg ht hk he (itKeys_ok (List.mem_cons_self ..)) g1 nl.2 ?_ fun acc s M' r' q' => ?_
      · cases el : dcL vs tg ta fb fa (keysL kvs) (fs.set i (some (.lok i kvs))) [] with
        | ok acc s2 =>
          rw [el, nox_ok, ok_bind] at q
          rw [ok_bind]
          cases eu : unl i kvs (restF (fs.set i (some (.lok i kvs))) s2 vs) with
          | none => rw [eu] at q; exact q.elim
          | some s3 =>
            rw [eu] at q
            obtain ⟨u1, u2, rfl⟩ := unl_inv eu
            dsimp only
            intro d M' r'
            obtain ⟨k', k1, k2⟩ := g2 _ _ _ sl M' rfl r' u1 u2
            exact ⟨k', k1, q _ _ k2⟩
        | ex cl f s2 => rw [el] at q; exact q.elim
        | bad => rw [el] at q; exact q.elim
      · split at q'
        · exact al_new (n := .dic acc) rfl r' q'
        · exact q'.elim
    · rw [if_neg nl] at q; exact q.elim
  · exact q.elim
end
end F

/-! F14: x[i], x[j] = x[j], x[i]; functions as values; aliases. -/
namespace F
open PySem PySem.Spec L2 OD
section
variable {fa fb fc : FE} {oa ob oc : FO} {da db dc : DE} {ta tb : FT} {ua ub : DT} {as : FA} {dr : DA} {fi : FI} {di : DI} {np : Nat} {s1 s2 : FS} {t1 t2 : DS}
/-- xs with the values at two places exchanged -/
def swp (xs : List D) (a b : Nat) (v w : D) : List D := (xs.set a v).set b w
@[simp] def swpG (i j k : Nat) (d : D) (s : Sl) : Option Sl := match d, s[i]?, s[j]?, s[k]? with
  | .tup [v, w], some (some (.lst xs)), some (some (.im (.int a))), some (some (.im (.int b))) => (match ixN xs.length a, ixN xs.length b with
    | some ja, some jb => some (s.set i (some (.lst ((xs.set ja v).set jb w))))
    | _, _ => none)
  | _, _, _, _ => none
@[simp] noncomputable def fSwp (i j k : Nat) (s : Sl) : O := (fTup (fCons (fOp ixF (oV i) (oV k)) (fCons (fOp ixF (oV i) (oV j)) fNil)) s).thn fun w s => imS w fun d => match swpG i j k d s with
  | some s => .nx s
  | none => .bad
theorem s_swp {i j k : Nat} : SimS np (fSwp i j k) (dAsg (dTup (dCons (dOp ixD (dVar i) (dVar k)) (dCons (dOp ixD (dVar i) (dVar j)) dNil))) (dgTup 2 (dgCons (dgSub (dVar i) (dVar j)) (dgCons (dgSub (dVar i) (dVar k)) dgNil)))) := by
  intro c hc Dd fs sl M r q
  refine (s_tup (a_cons (s_op ixF_ok (o_v i) (o_v k)) (a_cons (s_op ixF_ok (o_v i) (o_v j)) a_nil))) c fs sl M _ _ r (poE_st q fun w fs1 e q d M1 r1 => ?_)
  cases w with
  | im x =>
    obtain rfl := r1.eq
    unfold imS at q
    dsimp only at q
    unfold swpG at q
    split at q
    · rename_i fs2 eq1
      split at eq1
      · rename_i v w xs a b e1 e2 e3
        split at eq1
        · rename_i ja jb ea eb
          cases eq1
          obtain ⟨p, t, g1, g2, g3⟩ := r1.rel.lst e1
          have ex : ∀ {z : Nat} {u : D}, fs1[z]? = some (some (.im u)) → sl[z]? = some (some u) := by
            intro z u hz
            obtain ⟨E, r'⟩ := r1.rel
            obtain ⟨x0, h1, h2⟩ := r'.slt z _ hz
            rw [h1, h2.1]
          refine ⟨rfl, v, [w], rfl, ⟨_, g1, ⟨_, ex e2, t, _, g2, ja, ea, ?_⟩⟩⟩
          have ht : t < M1.length := (List.getElem?_eq_some_iff.mp g2).1
          have g2' : (M1.set t (p, N.lst (xs.set ja v)))[t]? = some (p, .lst (xs.set ja v)) := by rw [List.getElem?_set_self ht]
          refine ⟨w, [], rfl, ⟨_, g1, ⟨_, ex e3, t, _, g2', jb, by rw [List.length_set]; exact eb, ?_⟩⟩⟩
          refine ⟨rfl, ?_⟩
          have g4 := g3 ((xs.set ja v).set jb w)
          have e5 : (M1.set t (p, N.lst (xs.set ja v))).set t (p, N.lst ((xs.set ja v).set jb w)) = M1.set t (p, N.lst ((xs.set ja v).set jb w)) := by
            rw [List.set_set]
          show Dd.nx sl ((M1.set t (p, N.lst (xs.set ja v))).set t (p, N.lst ((xs.set ja v).set jb w)))
          rw [e5]
          exact q sl _ g4
        · cases eq1
      · cases eq1
    · exact q.elim
  | _ => exact q.elim
/-- a function that stands in a slot is called -/
@[simp] def callIm (n : Nat) (ff : FF) (ds : List D) (s : Sl) : R Sv := if ds.length = n then (match ff (ds.map .im) with
  | .ok (.im d) _ => .ok (.im d) s
  | _ => .bad) else .bad
@[simp] def fCallV (i : Nat) (a : Addr) (n : Nat) (ff : FF) (as : FA) (s : Sl) : R Sv := match s[i]? with
  | some (some (.im (.ref b))) => if b = a then (as s).bind fun ds s => callIm n ff ds s else .bad
  | _ => .bad
theorem s_callV {i n : Nat} {a : Addr} {ff : FF} {S : Addr → FD → Prop} (hS : S a (fdN n ff)) (hr : SimA as dr) : SimE (fCallV i a n ff as) (dCallE (dVar i) S [] dr) := by
  intro c fs sl M ED Q r q
  unfold fCallV at q
  split at q
  · rename_i b e0
    by_cases hb : b = a
    · rw [if_pos hb] at q
      subst hb
      have e1 : sl[i]? = some (some (.ref b)) := by
        obtain ⟨E, r'⟩ := r
        obtain ⟨x0, h1, h2⟩ := r'.slt i _ e0
        rw [h1, h2.1]
      refine ⟨_, e1, b, _, rfl, hS, hr c fs sl M ED _ r ?_⟩
      cases e : as fs with
      | ex cl f fs' => rw [e] at q; exact q
      | bad => rw [e] at q; exact q.elim
      | ok ds fs1 =>
        rw [e, ok_bind] at q
        intro M1 r1
        unfold callIm at q
        by_cases hn : ds.length = n
        · rw [if_pos hn] at q
          refine ⟨rfl, ⟨List.nodup_nil, ds.map .im, ds.map fun _ => [], by simp [hn], ents_im ds, by rw [flat_nil]; rfl, ?_⟩⟩
          split at q
          · rename_i d outs er
            rw [er]
            intro d' Ew Es' g1 g2 g3
            obtain ⟨rfl, rfl⟩ := g3
            rw [flat_keys g2 (flat_nil ds)]
            have e9 : putM [] M1 ([] ++ []) = M1 := by unfold putM; simp
            rw [e9]
            exact q _ M1 (r1.imI _)
          · exact q.elim
        · rw [if_neg hn] at q; exact q.elim
    · rw [if_neg hb] at q; exact q.elim
  · exact q.elim
/-- for f in (f1, f2, ..): body -/
def forFL (i : Nat) (body : Addr → FF → FS) : List (Addr × FF) → Sl → O
  | [], s => .nx s
  | (a, ff) :: r, s => match body a ff (s.set i (some (.im (.ref a)))) with
    | .nx s => forFL i body r s
    | .ct s => forFL i body r s
    | .bk s => .nx s
    | o => o
@[simp] def fForF (i : Nat) (L : List (Addr × FF)) (body : Addr → FF → FS) (s : Sl) : O := forFL i body L s
theorem forF_core {i : Nat} {body : Addr → FF → FS} (L0 L : List (Addr × FF)) (hb : ∀ a ff, (a, ff) ∈ L0 → SimS np (body a ff) t1) {c : Cz} (hc : c.np = np) {it : Itm} {xs : List D} (hx : xs = L0.map fun p => D.ref p.1) (ok : ItOk1 c it xs) {Dd : DEnds} {fs1 : Sl} {sl : Slots} {M1 : Mem} (r1 : Rel c fs1 sl M1) (q : PoS c Dd (forFL i body L0 fs1)) :
    ∃ W : Nat → Slots → Mem → Prop, W 0 sl M1 ∧ (∀ i sl M, i ≤ it.n → W i sl M → it.gd M) ∧
  (∀ j sl M, j < it.n → W j sl M → dName i (it.at_ j) sl M fun sl2 M2 => t1 { Dd with nx := W (j + 1), ct := W (j + 1), bk := Dd.nx } sl2 M2) ∧ ∀ sl M, W it.n sl M → Dd.nx sl M := by
  have hl : xs.length = L0.length := by rw [hx, List.length_map]
  refine ⟨fun j sl' M' => ∃ fs', Rel c fs' sl' M' ∧ PoS c Dd (forFL i body (L0.drop j) fs'), ⟨fs1, r1, q⟩, fun _ sl M _ w => ?_, fun j sl' M' hj w => ?_, fun sl' M' w => ?_⟩
  · obtain ⟨fs', r', _⟩ := w
    exact ok.gd fs' sl M r'
  · obtain ⟨fs', r', q'⟩ := w
    have hj' : j < xs.length := by rw [← ok.n]; exact hj
    have hj2 : j < L0.length := by omega
    rw [List.drop_eq_getElem_cons hj2] at q'
    rw [ok.at_ j hj']
    have ex : xs[j] = .ref (L0[j]).1 := by subst hx; rw [List.getElem_map]
    rw [ex]
    have hm : L0[j] ∈ L0 := List.getElem_mem hj2
    revert q' hm
    generalize L0[j] = e
    obtain ⟨a, ff⟩ := e
    intro q' hm
    unfold forFL at q'
    show t1 _ (sl'.set i (some (.ref a))) M'
    refine hb a ff hm c hc _ _ _ M' (r'.set i (.ref a)) ?_
    cases eb : body a ff (fs'.set i (some (.im (.ref a)))) with
    | nx fs3 => rw [eb] at q'; exact fun sl3 M3 r3 => ⟨fs3, r3, q'⟩
    | ct fs3 => rw [eb] at q'; exact fun sl3 M3 r3 => ⟨fs3, r3, q'⟩
    | bk fs3 => rw [eb] at q'; exact q'
    | rt w fs3 => rw [eb] at q'; exact q'
    | ex cl g fs3 => rw [eb] at q'; exact q'
    | bad => rw [eb] at q'; exact q'
  · obtain ⟨fs', r', q'⟩ := w
    rw [ok.n, hl, List.drop_length] at q'
    exact q' sl' M' r'
theorem s_forF {i : Nat} {L : List (Addr × FF)} {body : Addr → FF → FS} (hi : SimI (fun s => .ok (L.map fun p => D.ref p.1) s) di) (hb : ∀ a ff, (a, ff) ∈ L → SimS np (body a ff) t1) : SimS np (fForF i L body) (dFor di (dName i) t1) := by
  intro c hc Dd fs sl M r q
  exact hi c fs sl M _ _ r fun it M1 r1 ok => forF_core L L hb hc rfl (ok.one c) r1 q
/-- three functions -/
def S3 (a1 a2 a3 : Addr) (F1 F2 F3 : FD) : Addr → FD → Prop := fun f F => (f = a1 ∧ F = F1) ∨ (f = a2 ∧ F = F2) ∨ (f = a3 ∧ F = F3)
theorem S3.held {P : Program} {w : World} {K : PySem.W.Frag} {mg : Str → Option Value} {base : Heap} {A : Around} {a1 a2 a3 : Addr} {F1 F2 F3 : FD} (h1 : ∃ k, HeldD P w K mg base k a1 F1 ∧ Room k A) (h2 : ∃ k, HeldD P w K mg base k a2 F2 ∧ Room k A) (h3 : ∃ k, HeldD P w K mg base k a3 F3 ∧ Room k A) :
    ∀ f F, S3 a1 a2 a3 F1 F2 F3 f F → ∃ k, HeldD P w K mg base k f F ∧ Room k A := by
  intro f F h
  rcases h with ⟨rfl, rfl⟩ | ⟨rfl, rfl⟩ | ⟨rfl, rfl⟩
  · exact h1
  · exact h2
  · exact h3
theorem s_forF3 {i n : Nat} {a1 a2 a3 : Addr} {f1 f2 f3 : FF} {body : Addr → FF → FS} (hb : ∀ a ff, S3 a1 a2 a3 (fdN n f1) (fdN n f2) (fdN n f3) a (fdN n ff) → SimS np (body a ff) t1) :
    SimS np (fForF i [(a1, f1), (a2, f2), (a3, f3)] body) (dFor (diSeq (dTup (dCons (dC (.ref a1)) (dCons (dC (.ref a2)) (dCons (dC (.ref a3)) dNil))))) (dName i) t1) := by
  refine s_forF ?_ fun a ff h => hb a ff ?_
  · have h := i_seq (s_tup (a_cons (s_c (.ref a1)) (a_cons (s_c (.ref a2)) (a_cons (s_c (.ref a3)) a_nil))))
    intro c fs sl M ED Q r q
    refine h c fs sl M ED Q r ?_
    have e : iSeq (fTup (fCons (fC (.ref a1)) (fCons (fC (.ref a2)) (fCons (fC (.ref a3)) fNil)))) fs = .ok [.ref a1, .ref a2, .ref a3] fs := by
      simp
    rw [e]
    exact q
  · simp only [List.mem_cons, Prod.mk.injEq, List.not_mem_nil, or_false] at h
    unfold S3
    rcases h with ⟨rfl, rfl⟩ | ⟨rfl, rfl⟩ | ⟨rfl, rfl⟩
    · exact .inl ⟨rfl, rfl⟩
    · exact .inr (.inl ⟨rfl, rfl⟩)
    · exact .inr (.inr ⟨rfl, rfl⟩)
end
/-- a def of the top under another name -/
theorem DefOk.fnA {P : Program} {w : World} {K : PySem.W.Frag} {mg : Str → Option Value} {base : Heap} {x y : Str} {st : Stmt} {f : Addr} {fd : FuncData} {N ps : List Str} {k np nl : Nat} {body : FS} {td : DS}
    (Fn : Fun K x x st f fd) (m : mg y = some (.ref f)) (b : Binds K fd ps []) (S : FnScope N ps (defScope st)) (hp : ps.length = np) (hn : N.length = np + nl)
    (hder : ∀ (cdv : Value) (A : Around) (outer : List Env) (s : Shared) (H : Hp) (E : XK), Room k (A.deeper (PyProof.Rows.envOfC x (defScope st) s.heap.objs.size f cdv)) →
      DBx (cxOf CX0 P w K mg base N x (defScope st) f cdv A outer s H E).nox (fun _ => E0) (defBody st) td) (hs : SimS np body td) : DefOk P w K mg base (k + 1) y ps (fdN np (fDef np nl body)) :=
  ⟨f, fd, m, Fn.kp, b, fn_fn Fn S hp hn hder hs⟩
end F

/-! F15: d.copy(), d.get(k), list(range(..)). -/
namespace F
open PySem PySem.Spec L2 OD
section
variable {fa fb fc : FE} {oa ob oc : FO} {da db dc : DE} {ta tb : FT} {ua ub : DT} {as : FA} {dr : DA} {fi : FI} {di : DI} {np : Nat} {s1 s2 : FS} {t1 t2 : DS}
@[simp] def fCopy (a : FO) (s : Sl) : R Sv := (a s).bind fun g s => match g s with
  | some (.dic kvs) => .ok (.im (.dic kvs)) s
  | _ => .bad
@[simp] def fCopyN (a : FO) (s : Sl) : R Sv := (a s).bind fun g s => match g s with
  | some (.dic kvs) => .ok (.dic kvs) s
  | _ => .bad
theorem s_copy (ha : SimO oa da) : SimE (fCopy oa) (dCopy false da) := by
  intro c fs sl M ED Q r q
  refine ha c fs sl M ED _ r (poO_cases q fun g fs1 e q x M1 r1 l1 => ?_)
  split at q
  · rename_i kvs g0
    exact l1 fs1 M1 _ _ r1 g0 ⟨kvs, rfl, q _ M1 (r1.imI _)⟩
  · exact q.elim
theorem s_copyN (ha : SimO oa da) : SimE (fCopyN oa) (dCopy true da) := by
  intro c fs sl M ED Q r q
  refine ha c fs sl M ED _ r (poO_cases q fun g fs1 e q x M1 r1 l1 => ?_)
  split at q
  · rename_i kvs g0
    exact l1 fs1 M1 _ _ r1 g0 ⟨kvs, rfl, al_new (n := .dic kvs) rfl r1 q⟩
  · exact q.elim
@[simp] def fGet1 (a : FO) (b : FE) (s : Sl) : R Sv := (a s).bind fun g s => match g s with
  | some (.dic _) => (b s).bind fun w s => imK w fun y => (match g s, keyD y with
    | some (.dic kvs), some k => .ok (.im ((lookD kvs k).getD .non)) s
    | _, _ => .bad)
  | _ => .bad
theorem s_get1 (ha : SimO oa da) (hb : SimE fb db) : SimE (fGet1 oa fb) (dGet1 da db) := by
  intro c fs sl M ED Q r q
  refine ha c fs sl M ED _ r (poO_cases q fun g fs1 e q x M1 r1 l1 => ?_)
  split at q
  · rename_i kvs0 g0
    refine ⟨l1 fs1 M1 _ _ r1 g0 ⟨_, rfl⟩, hb c fs1 sl M1 ED _ r1 (poE_cases q fun w fs2 e q y M2 r2 => ?_)⟩
    cases w with
    | im y' =>
      obtain rfl := r2.eq
      unfold imK at q
      dsimp only at q
      split at q
      · rename_i kvs k g3 ek
        exact l1 fs2 M2 _ _ r2.rel g3 ⟨kvs, k, rfl, ek, q _ M2 (r2.rel.imI _)⟩
      · exact q.elim
    | _ => exact q.elim
  · exact q.elim
def rgOkN (i j : Int) : Prop := 0 ≤ i ∧ i ≤ 4611686018427387903 ∧ -4611686018427387904 ≤ j ∧ j ≤ 4611686018427387903 ∧ j - i ≤ 16777216
theorem rgOk_of {i j : Int} (h : rgOkN i j) : RgOk i j := by
  obtain ⟨h1, h2, h3, h4, h5⟩ := h
  exact ⟨by omega, by omega, by omega, by omega, by omega⟩
@[simp] noncomputable def lrG (fin : List D → Sl → R Sv) (i j : D) (s : Sl) : R Sv := match i, j with
  | .int a, .int b => cif (rgOkN a b) (fin (rgD a b) s) (.bad)
  | _, _ => .bad
@[simp] noncomputable def fLr1 (a : FE) (s : Sl) : R Sv := (a s).bind fun w s => imK w fun x => lrG (fun l s => .ok (.im (.lst l)) s) (.int 0) x s
@[simp] noncomputable def fLr1N (a : FE) (s : Sl) : R Sv := (a s).bind fun w s => imK w fun x => lrG (fun l s => .ok (.lst l) s) (.int 0) x s
@[simp] noncomputable def fLr2 (a b : FE) (s : Sl) : R Sv := (a s).bind fun w s => imK w fun x => (b s).bind fun w s => imK w fun y => lrG (fun l s => .ok (.im (.lst l)) s) x y s
@[simp] noncomputable def fLr2N (a b : FE) (s : Sl) : R Sv := (a s).bind fun w s => imK w fun x => (b s).bind fun w s => imK w fun y => lrG (fun l s => .ok (.lst l) s) x y s
theorem lr1_core {o : Bool} {fin : List D → Sl → R Sv} (ha : SimE fa da) {c : Cz} {fs : Sl} {sl : Slots} {M : Mem} {ED : XD} {Q : DK} (r : Rel c fs sl M) (q : PoE c sl ED Q ((fa fs).bind fun w s => imK w fun x => lrG fin (.int 0) x s))
    (hf : ∀ l s M, Rel c s sl M → PoE c sl ED Q (fin l s) → al o (.lst l) M Q) : dLstRg1 o da sl M ED Q := by
  refine ha c fs sl M ED _ r (poE_cases q fun w fs1 e q x M1 r1 => ?_)
  cases w with
  | im x' =>
    obtain rfl := r1.eq
    unfold imK at q
    dsimp only at q
    unfold lrG at q
    split at q
    · rename_i a b ea
      cases ea
      by_cases hz : rgOkN 0 b
      · rw [cif_pos hz] at q; exact ⟨b, rfl, rgOk_of hz, hf _ _ _ r1.rel q⟩
      · rw [cif_neg hz] at q; exact q.elim
    · exact q.elim
  | _ => exact q.elim
theorem s_lr1 (ha : SimE fa da) : SimE (fLr1 fa) (dLstRg1 false da) := fun c fs sl M ED Q r q => lr1_core (o := false) ha r q fun l s M r q => q _ M (r.imI _)
theorem s_lr1N (ha : SimE fa da) : SimE (fLr1N fa) (dLstRg1 true da) := fun c fs sl M ED Q r q => lr1_core (o := true) ha r q fun l s M r q => al_new (n := .lst l) rfl r q
theorem lr2_core {o : Bool} {fin : List D → Sl → R Sv} (ha : SimE fa da) (hb : SimE fb db) {c : Cz} {fs : Sl} {sl : Slots} {M : Mem} {ED : XD} {Q : DK} (r : Rel c fs sl M) (q : PoE c sl ED Q ((fa fs).bind fun w s => imK w fun x => (fb s).bind fun w s => imK w fun y => lrG fin x y s))
    (hf : ∀ l s M, Rel c s sl M → PoE c sl ED Q (fin l s) → al o (.lst l) M Q) : dLstRg2 o da db sl M ED Q := by
  refine ha c fs sl M ED _ r (poE_cases q fun w fs1 e q x M1 r1 => ?_)
  cases w with
  | im x' =>
    obtain rfl := r1.eq
    unfold imK at q
    dsimp only at q
    refine hb c fs1 sl M1 ED _ r1.rel (poE_cases q fun w fs2 e q y M2 r2 => ?_)
    cases w with
    | im y' =>
      obtain rfl := r2.eq
      dsimp only at q
      unfold lrG at q
      split at q
      · rename_i a b e1 e2
        by_cases hz : rgOkN a b
        · rw [cif_pos hz] at q; exact ⟨a, b, rfl, rfl, rgOk_of hz, hf _ _ _ r2.rel q⟩
        · rw [cif_neg hz] at q; exact q.elim
      · exact q.elim
    | _ => exact q.elim
  | _ => exact q.elim
theorem s_lr2 (ha : SimE fa da) (hb : SimE fb db) : SimE (fLr2 fa fb) (dLstRg2 false da db) := fun c fs sl M ED Q r q => lr2_core (o := false) ha hb r q fun l s M r q => q _ M (r.imI _)
theorem s_lr2N (ha : SimE fa da) (hb : SimE fb db) : SimE (fLr2N fa fb) (dLstRg2 true da db) := fun c fs sl M ED Q r q => lr2_core (o := true) ha hb r q fun l s M r q => al_new (n := .lst l) rfl r q
end
end F

/-! FPot: the pot of draws, as plain functions. -/
namespace Once
open PySem PySem.Spec L2 OD
def drawE (c : PotC) : Int :=
  let n1 := (c.ss.getD (c.t % (c.ss.length : Int)).toNat 0 * 7919 + 104729 * c.t + c.w * 31) * 48271 + 11
  let n2 := n1 % 2147483647 * (n1 % 2147483647 / 1009 + 69621)
  (n2 % 2147483629 * (n2 % 2147483629 / 2003 + 40692) + c.t) % 2147483399 / 64
def drawV (c : PotC) (n : Int) : Int × PotC := match c.gs with
  | x :: r => (x % n, if x < n then { c with gs := r, t := c.t + 1 } else { c with gs := x / n :: r, t := c.t + 1 })
  | [] => (drawE c % n, { c with t := c.t + 1 })
def fd_draw1 : FD := fun ds M _ Q => ∃ (p g s : Addr) (c : PotC) (n : Int), ds = [.ref p, .int n] ∧ M = potM p g s c ∧ c.ss ≠ [] ∧ 0 < n ∧ n.natAbs.log2 < 9000 ∧ Q (.int (drawV c n).1) (potM p g s (drawV c n).2)
theorem rd_draw1 : ∀ ds M (ED : XD) QD, fd_draw1 ds M ED QD → td_law_draw (outs M QD) (startD ["_law_pot_here", "_law_limit", "_law_turn", "_law_seed", "_law_number"] ds) M := by
  rintro ds M ED QD ⟨p, g, s, ⟨gs, ss, t, w⟩, n, rfl, rfl, hs, hn, hl, h⟩
  -- turn = pot[2]; pot[2] = turn + 1; if len(pot[0]) > 0
  refine ⟨_, rfl, 2, _, rfl, _, rfl, ?_⟩
  refine ⟨_, rfl, _, rfl, 2, _, rfl, 2, rfl, ?_⟩
  refine ⟨_, rfl, 2, _, rfl, _, rfl, 0, _, rfl, _, rfl, ite2 (fun e => ?_) (fun e => ?_)⟩
  · cases gs with
    | nil => exact absurd e (by simp)
    | cons x r =>
      -- number = pot[0][0]; pot[0][0] = number // limit; if number < limit: pot[0].pop(0); return int(number) % limit
      refine ⟨_, rfl, 2, _, rfl, _, rfl, 0, _, rfl, _, at0, ?_⟩
      refine ⟨_, rfl, _, rfl, ⟨hn, hl⟩, _, rfl, 2, _, rfl, _, rfl, 0, _, rfl, 0, ix0, ?_⟩
      have p0 : 0 ≤ x % n := Int.emod_nonneg _ (by omega)
      have p1 : x % n < n := Int.emod_lt_of_pos _ hn
      refine ⟨_, rfl, _, rfl, _, rfl, ite2 (fun e2 => ?_) (fun e2 => ?_)⟩
      · refine ⟨_, rfl, 2, _, rfl, _, rfl, ⟨0, _, rfl⟩, 0, _, rfl, by decide, by decide, 0, _, seq0, rfl, ?_⟩
        rw [show drawV ⟨x :: r, ss, t, w⟩ n = (x % n, ⟨r, ss, t + 1, w⟩) from by unfold drawV; dsimp only; rw [if_pos (of_decide_eq_true e2)]] at h
        exact ⟨_, rfl, _, rfl, hn, .all rfl h⟩
      · rw [show drawV ⟨x :: r, ss, t, w⟩ n = (x % n, ⟨x / n :: r, ss, t + 1, w⟩) from by unfold drawV; dsimp only; rw [if_neg fun z => e2 (decide_eq_true z)]] at h
        exact ⟨_, rfl, _, rfl, hn, .all rfl h⟩
  · -- seed = ..; number = .. (thrice); return ..
    have hl0 : 0 < (ss.length : Int) := by
      cases ss with
      | nil => exact absurd rfl hs
      | cons _ _ => simp
    have q0 : 0 ≤ t % (ss.length : Int) := Int.emod_nonneg _ (by omega)
    have q1 : t % (ss.length : Int) < ss.length := Int.emod_lt_of_pos _ hl0
    obtain ⟨j, hj⟩ : ∃ j : Nat, t % (ss.length : Int) = j := ⟨(t % (ss.length : Int)).toNat, by omega⟩
    have hjl : j < ss.length := by omega
    have hget : atI (ss.map D.int) (t % ((ss.map D.int).length : Int)) = some (D.int ss[j]) := by
      rw [List.length_map, hj]
      refine atI_nat ?_
      rw [List.getElem?_map, List.getElem?_eq_getElem hjl]
      rfl
    have md : ∀ i : Int, MulOk i 7919 ∧ MulOk 104729 i ∧ MulOk i 31 ∧ MulOk i 48271 := fun i =>
      ⟨.inl (.inr ⟨by decide, by decide⟩), .inl (.inl ⟨by decide, by decide⟩), .inl (.inr ⟨by decide, by decide⟩), .inl (.inr ⟨by decide, by decide⟩)⟩
    refine ⟨_, rfl, 2, _, rfl, _, rfl, _, rfl, _, rfl, 2, _, rfl, _, rfl, 1, _, rfl, by show 0 < (((ss.map D.int).length : Nat) : Int); rw [List.length_map]; exact hl0, 1, _, rfl, _, hget, (md _).1, _, rfl, (md _).2.1, _, rfl, 2, _, rfl, _, rfl, (md _).2.2.1, ?_⟩
    refine ⟨_, rfl, (md _).2.2.2, by decide, ?_⟩
    generalize h1 : (ss[j] * 7919 + 104729 * t + w * 31) * 48271 + 11 = n1
    have a0 : 0 ≤ n1 % 2147483647 := Int.emod_nonneg _ (by decide)
    have a1 : n1 % 2147483647 < 2147483647 := Int.emod_lt_of_pos _ (by decide)
    refine ⟨_, rfl, _, rfl, ⟨by decide, by decide⟩, .inl (.inl ⟨by show -(2 ^ 64) < n1 % 2147483647; omega, by show n1 % 2147483647 < 2 ^ 64; omega⟩), by decide, ?_⟩
    generalize h2 : n1 % 2147483647 * (n1 % 2147483647 / 1009 + 69621) = n2
    have b0 : 0 ≤ n2 % 2147483629 := Int.emod_nonneg _ (by decide)
    have b1 : n2 % 2147483629 < 2147483629 := Int.emod_lt_of_pos _ (by decide)
    refine ⟨_, rfl, _, rfl, ⟨by decide, by decide⟩, .inl (.inl ⟨by show -(2 ^ 64) < n2 % 2147483629; omega, by show n2 % 2147483629 < 2 ^ 64; omega⟩), _, rfl, by decide, ?_⟩
    refine ⟨_, rfl, ⟨by decide, by decide⟩, _, rfl, hn, ?_⟩
    have hg : gs = [] := by
      cases gs with
      | nil => rfl
      | cons x r => exact absurd (decide_eq_true (show (0 : Int) < (((x :: r).map D.int).length : Nat) by simp)) e
    subst hg
    have hd : ss.getD (t % (ss.length : Int)).toNat 0 = ss[j] := by
      rw [hj, Int.toNat_natCast, List.getD_eq_getElem?_getD, List.getElem?_eq_getElem hjl]; rfl
    have hv : drawV ⟨[], ss, t, w⟩ n = ((n2 % 2147483629 * (n2 % 2147483629 / 2003 + 40692) + t) % 2147483399 / 64 % n, ⟨[], ss, t + 1, w⟩) := by
      show (drawE ⟨[], ss, t, w⟩ % n, _) = _
      unfold drawE
      dsimp only
      rw [hd, h1, h2]
    rw [hv] at h
    exact .all rfl h

def potV (ns : List Int) : PotC :=
  let A := (ns.filter fun x => decide ((if x < 0 then -x else x) < 10 ^ 18)).map fun x => x % 1000000007
  ⟨(ns.filter fun x => decide (10 ^ 18 ≤ (if x < 0 then -x else x))).map fun x => if x < 0 then -x else x, A ++ [(ns.length : Int) + 1], 0, (A ++ [(ns.length : Int) + 1]).sum % 999983⟩
def fd_pot1 : FD := fun ds M _ Q => ∃ ns : List Int, ds = [.scr ns] ∧ M = [] ∧ ns.length ≤ 63 ∧ ∀ (p g s : Addr), [g, s, p].Nodup → ∀ c : PotC, c = potV ns → Q (.ref p) (potM p g s c)
theorem rd_pot1 : ∀ ds M (ED : XD) QD, fd_pot1 ds M ED QD → td_law_pot (outs M QD) (startD ["_law_script", "_law_cells", "_law_greats", "_law_smalls", "_law_item"] ds) M := by
  rintro ds M ED QD ⟨ns, rfl, rfl, hn, h⟩
  -- cells
  have hc : (cutL ns none (some 63)) = ns := by
    unfold cutL
    rw [HT.sIx_none, show HT.sIx ns.length ns.length (some 63) = min 63 ns.length from HT.sIx_nat _ _ 63]
    rw [List.drop_zero, List.take_of_length_le (by omega)]
  refine st_lc (ns := ns) (fun _ => true) id ?_ (by omega) ?_ ?_ ?_
  · intro RD hr
    refine ⟨_, rfl, _, rfl, ?_⟩
    show RD (itSeq ((cutL ns none (some 63)).map .int) _) _
    rw [hc]
    exact hr
  · exact fun x Q q => q
  · exact fun x Q q => ⟨_, rfl, q⟩
  have e1 : ((ns.filter fun _ => true).map id) = ns := by simp
  rw [e1]
  -- greats
  refine al_f ?_
  refine st_lc (ns := ns) (fun x => decide (10 ^ 18 ≤ (if x < 0 then -x else x))) (fun x => if x < 0 then -x else x) ?_ (by omega) ?_ ?_ ?_
  · exact fun RD hr => ⟨_, rfl, hr⟩
  · exact fun x Q q => ⟨_, rfl, ⟨by decide, by decide, by decide⟩, _, rfl, q⟩
  · exact fun x Q q => ⟨_, rfl, q⟩
  intro g hg
  -- smalls
  refine lc_ints (ns := ns) (fun x => decide ((if x < 0 then -x else x) < 10 ^ 18)) (fun x => x % 1000000007) ?_ (by omega) ?_ ?_ ?_
  · exact fun RD hr => ⟨_, rfl, hr⟩
  · exact fun x Q q => ⟨_, rfl, ⟨by decide, by decide, by decide⟩, _, rfl, q⟩
  · exact fun x Q q => ⟨_, rfl, by decide, q⟩
  have hz : ∀ l : List Int, (l.map D.int).length = l.length := fun l => List.length_map _
  generalize hA : ((ns.filter fun x => decide ((if x < 0 then -x else x) < 10 ^ 18)).map fun x => x % 1000000007) = A
  have hAl : A.length ≤ 63 := by
    rw [← hA, List.length_map]
    exact Nat.le_trans (List.length_filter_le _ _) hn
  refine ⟨_, rfl, small1 1 (by decide), ?_, ?_⟩
  · show (A.map D.int).length + 1 ≤ sizeLine
    rw [hz]
    exact small1 _ (by omega)
  intro s hs
  have hB : A.map D.int ++ [D.int (((ns.map D.int).length : Int) + 1)] = (A ++ [((ns.map D.int).length : Int) + 1]).map D.int := by rw [List.map_append]; rfl
  refine ⟨_, rfl, _, rfl, _, rfl, 1, _, rfl, _, hB, by decide, small1 4 (by decide), fun p hp => ?_⟩
  refine .all rfl ?_
  rw [hB]
  refine h p g s ?_ ⟨(ns.filter fun x => decide (10 ^ 18 ≤ (if x < 0 then -x else x))).map fun x => if x < 0 then -x else x, A ++ [((ns.map D.int).length : Int) + 1], 0, (A ++ [((ns.map D.int).length : Int) + 1]).sum % 999983⟩ ?_
  · have k1 : s ≠ g := fun z => hs (by rw [z]; simp [keys])
    have k2 : p ≠ g ∧ p ≠ s := by
      constructor <;> (intro z; exact hp (by rw [z]; simp [keys]))
    show [g, s, p].Nodup
    simp [Ne.symm k1, Ne.symm k2.1, Ne.symm k2.2]
  · show _ = potV ns
    unfold potV
    rw [hA]
    have : (ns.map D.int).length = ns.length := List.length_map _
    rw [this]

end Once
namespace F
open PySem PySem.Spec L2 OD Once
/-- a draw -/
def ff_law_draw : FF := fun args => match args with
  | [.pot c, .im (.int n)] => if c.ss ≠ [] ∧ 0 < n ∧ n.natAbs.log2 < 9000 then .ok (.im (.int (drawV c n).1)) [.pot (drawV c n).2, .im (.int n)] else .bad
  | _ => .bad
theorem draw_inv {args : List Sv} {r : Rs} (h : ff_law_draw args = r) (hb : r ≠ .bad) : ∃ c n, args = [.pot c, .im (.int n)] ∧ (c.ss ≠ [] ∧ 0 < n ∧ n.natAbs.log2 < 9000) ∧ r = .ok (.im (.int (drawV c n).1)) [.pot (drawV c n).2, .im (.int n)] := by
  unfold ff_law_draw at h
  split at h
  · rename_i c n
    by_cases hh : c.ss ≠ [] ∧ 0 < n ∧ n.natAbs.log2 < 9000
    · rw [if_pos hh] at h; exact ⟨c, n, rfl, hh, h.symm⟩
    · rw [if_neg hh] at h; exact absurd h.symm hb
  · exact absurd h.symm hb
theorem rd_law_draw : ∀ ds M ED QD, fdN 2 ff_law_draw ds M ED QD → td_law_draw (outs M QD) (startD ["_law_pot_here", "_law_many", "_law_turn", "_law_seed", "_law_number"] ds) M := by
  rintro ds M ED QD ⟨nd, args, Es, ha, he, rfl, h⟩
  refine rd_draw1 _ _ ED _ ?_
  have hb : ff_law_draw args ≠ .bad := fun z => by rw [z] at h; exact h
  obtain ⟨c, n, rfl, hh, e⟩ := draw_inv rfl hb
  rw [e] at h
  cases he with
  | cons h1 h2 =>
    cases h2 with
    | cons h2 h3 =>
      cases h3
      obtain ⟨rfl, rfl⟩ := h2
      obtain ⟨p, g, s, rfl, rfl, nd2⟩ := h1
      refine ⟨p, g, s, c, n, rfl, by simp, hh.1, hh.2.1, hh.2.2, ?_⟩
      have := h (.int (drawV c n).1) [] [potM p g s (drawV c n).2, []] (.cons ⟨p, g, s, rfl, rfl, nd2⟩ (.cons ⟨rfl, rfl⟩ .nil)) rfl ⟨rfl, rfl⟩
      simpa using this
def ff_law_pot : FF := fun args => match args with
  | [.im (.scr ns)] => if ns.length ≤ 63 then .ok (.pot (potV ns)) [.im (.scr ns)] else .bad
  | _ => .bad
theorem pot_inv {args : List Sv} {r : Rs} (h : ff_law_pot args = r) (hb : r ≠ .bad) : ∃ ns, args = [.im (.scr ns)] ∧ ns.length ≤ 63 ∧ r = .ok (.pot (potV ns)) [.im (.scr ns)] := by
  unfold ff_law_pot at h
  split at h
  · rename_i ns
    by_cases hh : ns.length ≤ 63
    · rw [if_pos hh] at h; exact ⟨ns, rfl, hh, h.symm⟩
    · rw [if_neg hh] at h; exact absurd h.symm hb
  · exact absurd h.symm hb
theorem rd_law_pot : ∀ ds M ED QD, fdN 1 ff_law_pot ds M ED QD → td_law_pot (outs M QD) (startD ["_law_script", "_law_cells", "_law_greats", "_law_smalls", "_law_item"] ds) M := by
  rintro ds M ED QD ⟨nd, args, Es, ha, he, rfl, h⟩
  refine rd_pot1 _ _ ED _ ?_
  have hb : ff_law_pot args ≠ .bad := fun z => by rw [z] at h; exact h
  obtain ⟨ns, rfl, hh, e⟩ := pot_inv rfl hb
  rw [e] at h
  cases he with
  | cons h1 h2 =>
    cases h2
    obtain ⟨rfl, rfl⟩ := h1
    refine ⟨ns, rfl, rfl, hh, fun p g s n c e => ?_⟩
    subst e
    have := h (.ref p) (potM p g s (potV ns)) [[]] (.cons ⟨rfl, rfl⟩ .nil) rfl ⟨p, g, s, rfl, rfl, n⟩
    simpa using this
/-! what a draw tells -/
theorem drawV_lo {c : PotC} {n : Int} (h : 0 < n) : 0 ≤ (drawV c n).1 := by
  unfold drawV
  split <;> exact Int.emod_nonneg _ (by omega)
theorem drawV_hi {c : PotC} {n : Int} (h : 0 < n) : (drawV c n).1 < n := by
  unfold drawV
  split <;> exact Int.emod_lt_of_pos _ h
theorem drawV_ss {c : PotC} {n : Int} : (drawV c n).2.ss = c.ss := by
  unfold drawV
  split
  · split <;> rfl
  · rfl
theorem potV_ss {ns : List Int} : (potV ns).ss ≠ [] := by
  unfold potV
  simp
end F

/-! FS: how plain functions are worked out. -/
namespace F
open PySem PySem.Spec L2 OD
@[simp] theorem rOk_eq (i : Int) : rOk i = (-4611686018427387904 ≤ i ∧ i < 4611686018427387904) := rfl
@[simp] theorem svN_lst (xs) : svN (.lst xs) = .lst xs := rfl
@[simp] theorem svN_dic (xs) : svN (.dic xs) = .dic xs := rfl
@[simp] theorem argSv_nil (s : Sl) : argSv s [] = some [] := rfl
@[simp] theorem argSv_inl (s : Sl) (d : D) (xs : List AD) : argSv s (.inl d :: xs) = (argSv s xs).map (.im d :: ·) := by
  show (match argSv s xs with | some r => some (Sv.im d :: r) | none => none) = _
  cases argSv s xs <;> rfl
@[simp] theorem argSv_r (s : Sl) (j : Nat) (xs : List AD) : argSv s (.inr j :: xs) = (match s[j]? with | some (some sv) => if isLok sv = true then none else (argSv s xs).map (sv :: ·) | _ => none) := by
  show (match s[j]?, argSv s xs with | some (some (.lok _ _)), _ => none | some (some sv), some r => some (sv :: r) | _, _ => none) = _
  cases s[j]? with
  | none => rfl
  | some o =>
    cases o with
    | none => rfl
    | some sv => cases sv <;> cases argSv s xs <;> rfl
@[simp] theorem isLok_im (d) : isLok (.im d) = false := rfl
@[simp] theorem isLok_lst (d) : isLok (.lst d) = false := rfl
@[simp] theorem isLok_dic (d) : isLok (.dic d) = false := rfl
@[simp] theorem isLok_ins (C d) : isLok (.ins C d) = false := rfl
@[simp] theorem isLok_pot (d) : isLok (.pot d) = false := rfl
@[simp] theorem owned_im (d) : owned (.im d) = false := rfl
@[simp] theorem owned_lst (d) : owned (.lst d) = true := rfl
@[simp] theorem owned_dic (d) : owned (.dic d) = true := rfl
@[simp] theorem owned_ins (C d) : owned (.ins C d) = true := rfl
@[simp] theorem owned_pot (d) : owned (.pot d) = true := rfl
@[simp] theorem isPot_im (d) : isPot (.im d) = false := rfl
@[simp] theorem isPot_lst (d) : isPot (.lst d) = false := rfl
@[simp] theorem isPot_dic (d) : isPot (.dic d) = false := rfl
@[simp] theorem isPot_ins (C d) : isPot (.ins C d) = false := rfl
@[simp] theorem ownJ_nil (s : Sl) : ownJ s [] = [] := rfl
@[simp] theorem ownJ_inl (s : Sl) (d : D) (xs : List AD) : ownJ s (.inl d :: xs) = ownJ s xs := rfl
@[simp] theorem ownJ_r (s : Sl) (j : Nat) (xs : List AD) : ownJ s (.inr j :: xs) = (match s[j]? with | some (some sv) => if owned sv = true then j :: ownJ s xs else ownJ s xs | _ => ownJ s xs) := rfl
@[simp] theorem back_nil (s0 : Sl) (os : List Sv) (s : Sl) : back s0 [] os s = s := by cases os <;> rfl
@[simp] theorem back_nil2 (s0 : Sl) (xs : List AD) (s : Sl) : back s0 xs [] s = s := by
  cases xs with
  | nil => rfl
  | cons x xs => cases x <;> rfl
@[simp] theorem back_inl (s0 : Sl) (d : D) (xs : List AD) (o : Sv) (os : List Sv) (s : Sl) : back s0 (.inl d :: xs) (o :: os) s = back s0 xs os s := rfl
@[simp] theorem back_r (s0 s : Sl) (j : Nat) (xs : List AD) (o : Sv) (os : List Sv) : back s0 (.inr j :: xs) (o :: os) s = (match s0[j]? with | some (some sv) => if owned sv = true then back s0 xs os (s.set j (some o)) else back s0 xs os s | _ => back s0 xs os s) := rfl
@[simp] theorem rsR_ok (s : Sl) (xs : List AD) (w : Sv) (outs : List Sv) : rsR s xs (.ok w outs) = .ok w (back s xs outs s) := rfl
theorem call_eq {n : Nat} {ff : FF} {xs : List AD} {s : Sl} {args : List Sv} {w : Sv} {outs : List Sv} (h : argSv s xs = some args) (hl : args.length = n) (hn : (ownJ s xs).Nodup) (e : ff args = .ok w outs) : call n ff xs s = .ok w (back s xs outs s) := by
  unfold call
  rw [h]
  dsimp only
  rw [if_pos ⟨hl, hn⟩, e]
  rfl
@[simp] theorem call_def (n : Nat) (ff : FF) (xs : List AD) (s : Sl) : call n ff xs s = (match argSv s xs with | some args => if args.length = n ∧ (ownJ s xs).Nodup then rsR s xs (ff args) else .bad | none => .bad) := rfl
@[simp] theorem outOf_nil (s : Sl) : outOf [] s = some [] := by cases s <;> rfl
@[simp] theorem outOf_cons (a : Sv) (as : List Sv) (o : Option Sv) (s : Sl) : outOf (a :: as) (o :: s) = (match outOf as s with | some os => if owned a = true then (match o with | some sv => if owned sv = true then some (sv :: os) else none | none => none) else some (a :: os) | none => none) := rfl
@[simp] theorem rsOf_nx (args : List Sv) (s : Sl) : rsOf args (.nx s) = (match outOf args s with | some os => .ok (.im .non) os | none => .bad) := rfl
@[simp] theorem rsOf_rt (args : List Sv) (w : Sv) (s : Sl) : rsOf args (.rt w s) = if isPot w = true then .bad else (match outOf args s with | some os => .ok w os | none => .bad) := rfl
theorem fDef_eq {np nl : Nat} {body : FS} {args : List Sv} (h : args.length = np) : fDef np nl body args = rsOf args (body (args.map some ++ List.replicate nl none)) := if_pos h
@[simp] theorem tyD_non  : tyD .non = some "NoneType" := rfl
@[simp] theorem tyD_bl (b : Bool) : tyD (.bl b) = some "bool" := rfl
@[simp] theorem tyD_int (b : Int) : tyD (.int b) = some "int" := rfl
@[simp] theorem tyD_str (b : Str) : tyD (.str b) = some "str" := rfl
@[simp] theorem tyD_lst (b : List D) : tyD (.lst b) = some "list" := rfl
@[simp] theorem tyD_tup (b : List D) : tyD (.tup b) = some "tuple" := rfl
@[simp] theorem tyD_dic (b : List (Key × D)) : tyD (.dic b) = some "dict" := rfl
@[simp] theorem kit_NoneType_int : kitB "NoneType" "int" = some false := by decide +kernel
@[simp] theorem kit_NoneType_bool : kitB "NoneType" "bool" = some false := by decide +kernel
@[simp] theorem kit_NoneType_str : kitB "NoneType" "str" = some false := by decide +kernel
@[simp] theorem kit_NoneType_list : kitB "NoneType" "list" = some false := by decide +kernel
@[simp] theorem kit_NoneType_tuple : kitB "NoneType" "tuple" = some false := by decide +kernel
@[simp] theorem kit_NoneType_dict : kitB "NoneType" "dict" = some false := by decide +kernel
@[simp] theorem kit_bool_int : kitB "bool" "int" = some true := by decide +kernel
@[simp] theorem kit_bool_bool : kitB "bool" "bool" = some true := by decide +kernel
@[simp] theorem kit_bool_str : kitB "bool" "str" = some false := by decide +kernel
@[simp] theorem kit_bool_list : kitB "bool" "list" = some false := by decide +kernel
@[simp] theorem kit_bool_tuple : kitB "bool" "tuple" = some false := by decide +kernel
@[simp] theorem kit_bool_dict : kitB "bool" "dict" = some false := by decide +kernel
@[simp] theorem kit_int_int : kitB "int" "int" = some true := by decide +kernel
@[simp] theorem kit_int_bool : kitB "int" "bool" = some false := by decide +kernel
@[simp] theorem kit_int_str : kitB "int" "str" = some false := by decide +kernel
@[simp] theorem kit_int_list : kitB "int" "list" = some false := by decide +kernel
@[simp] theorem kit_int_tuple : kitB "int" "tuple" = some false := by decide +kernel
@[simp] theorem kit_int_dict : kitB "int" "dict" = some false := by decide +kernel
@[simp] theorem kit_str_int : kitB "str" "int" = some false := by decide +kernel
@[simp] theorem kit_str_bool : kitB "str" "bool" = some false := by decide +kernel
@[simp] theorem kit_str_str : kitB "str" "str" = some true := by decide +kernel
@[simp] theorem kit_str_list : kitB "str" "list" = some false := by decide +kernel
@[simp] theorem kit_str_tuple : kitB "str" "tuple" = some false := by decide +kernel
@[simp] theorem kit_str_dict : kitB "str" "dict" = some false := by decide +kernel
@[simp] theorem kit_list_int : kitB "list" "int" = some false := by decide +kernel
@[simp] theorem kit_list_bool : kitB "list" "bool" = some false := by decide +kernel
@[simp] theorem kit_list_str : kitB "list" "str" = some false := by decide +kernel
@[simp] theorem kit_list_list : kitB "list" "list" = some true := by decide +kernel
@[simp] theorem kit_list_tuple : kitB "list" "tuple" = some false := by decide +kernel
@[simp] theorem kit_list_dict : kitB "list" "dict" = some false := by decide +kernel
@[simp] theorem kit_tuple_int : kitB "tuple" "int" = some false := by decide +kernel
@[simp] theorem kit_tuple_bool : kitB "tuple" "bool" = some false := by decide +kernel
@[simp] theorem kit_tuple_str : kitB "tuple" "str" = some false := by decide +kernel
@[simp] theorem kit_tuple_list : kitB "tuple" "list" = some false := by decide +kernel
@[simp] theorem kit_tuple_tuple : kitB "tuple" "tuple" = some true := by decide +kernel
@[simp] theorem kit_tuple_dict : kitB "tuple" "dict" = some false := by decide +kernel
@[simp] theorem kit_dict_int : kitB "dict" "int" = some false := by decide +kernel
@[simp] theorem kit_dict_bool : kitB "dict" "bool" = some false := by decide +kernel
@[simp] theorem kit_dict_str : kitB "dict" "str" = some false := by decide +kernel
@[simp] theorem kit_dict_list : kitB "dict" "list" = some false := by decide +kernel
@[simp] theorem kit_dict_tuple : kitB "dict" "tuple" = some false := by decide +kernel
@[simp] theorem kit_dict_dict : kitB "dict" "dict" = some true := by decide +kernel
theorem rsOf_ok {args : List Sv} {w : Sv} {s : Sl} {os : List Sv} (hp : isPot w = false) (h : outOf args s = some os) : rsOf args (.rt w s) = .ok w os := by
  rw [rsOf_rt, hp, if_neg Bool.false_ne_true, h]
/-! numbered items -/
def enumP : Nat → List D → List D
  | _, [] => []
  | p, x :: xs => .tup [.int p, x] :: enumP (p + 1) xs
@[simp] theorem enumP_nil (p : Nat) : enumP p [] = [] := rfl
@[simp] theorem enumP_cons (p : Nat) (x : D) (xs : List D) : enumP p (x :: xs) = .tup [.int p, x] :: enumP (p + 1) xs := rfl
theorem mapIdx_P : ∀ (xs : List D) (p : Nat), xs.mapIdx (fun i x => D.tup [.int ((p + i : Nat) : Int), x]) = enumP p xs := by
  intro xs
  induction xs with
  | nil => intro p; rfl
  | cons x xs ih =>
    intro p
    rw [List.mapIdx_cons, enumP_cons, ← ih (p + 1)]
    congr 1
    congr 1
    funext i x
    rw [show p + (i + 1) = p + 1 + i by omega]
theorem enumL_P (xs : List D) : enumL xs = enumP 0 xs := by
  rw [← mapIdx_P xs 0]
  unfold enumL
  congr 1
  funext i x
  rw [Nat.zero_add]
/-! loops -/
theorem forL_cons {tg : FG} {body : FS} {x : D} {xs : List D} {s s1 : Sl} (h : tg x s = some s1) : forL tg body (x :: xs) s = (match body s1 with
      | .nx s => forL tg body xs s
      | .ct s => forL tg body xs s
      | .bk s => .nx s
      | o => o) := by
  show (match tg x s with
    | some s => (match body s with
      | .nx s => forL tg body xs s
      | .ct s => forL tg body xs s
      | .bk s => .nx s
      | o => o)
    | none => .bad) = _
  rw [h]
theorem forL_step {tg : FG} {body : FS} {x : D} {xs : List D} {s s1 s2 : Sl} (h : tg x s = some s1) (hb : body s1 = .nx s2) : forL tg body (x :: xs) s = forL tg body xs s2 := by
  rw [forL_cons h, hb]
/-- a loop that runs through: W by the turn -/
theorem forL_inv {tg : FG} {body : FS} {xs : List D} {s : Sl} (W : Nat → Sl → Prop) (h0 : W 0 s) (hs : ∀ j (hj : j < xs.length) s, W j s → ∃ s1 s2, tg xs[j] s = some s1 ∧ body s1 = .nx s2 ∧ W (j + 1) s2) : ∃ s', forL tg body xs s = .nx s' ∧ W xs.length s' := by
  induction xs generalizing s W with
  | nil => exact ⟨s, rfl, h0⟩
  | cons x r ih =>
    obtain ⟨s1, s2, h1, h2, h3⟩ := hs 0 (by simp) s h0
    obtain ⟨s', h4, h5⟩ := ih (fun j => W (j + 1)) h3 fun j hj s w => hs (j + 1) (by simp; omega) s w
    exact ⟨s', by rw [forL_step (x := x) h1 h2]; exact h4, h5⟩
/-- a loop whose state is told -/
theorem forL_st {tg : FG} {body : FS} {xs : List D} (st : Nat → Sl) (hs : ∀ j (hj : j < xs.length), ∃ s1, tg xs[j] (st j) = some s1 ∧ body s1 = .nx (st (j + 1))) : forL tg body xs (st 0) = .nx (st xs.length) := by
  obtain ⟨s', h1, h2⟩ := forL_inv (tg := tg) (body := body) (xs := xs) (fun j s => s = st j) rfl fun j hj s w => by
    subst w
    obtain ⟨s1, a, b⟩ := hs j hj
    exact ⟨s1, _, a, b, rfl⟩
  rw [h1, h2]
/-! comprehensions -/
theorem lcL_all {vs : List Nat} {tg : FG} {t : FT} {e : FE} {g : D → D} {s0 : Sl} : ∀ {xs : List D} {s : Sl} {acc : List D}, wipeF s vs = s0 → acc.length + xs.length ≤ 16777216 →
    (∀ x ∈ xs, ∃ s1 s2 s3, tg x s0 = some s1 ∧ t s1 = .ok true s2 ∧ e s2 = .ok (.im (g x)) s3 ∧ wipeF s3 vs = s0) → ∃ s', lcL vs tg t e xs s acc = .ok (acc ++ xs.map g) s' ∧ wipeF s' vs = s0 := by
  intro xs
  induction xs with
  | nil => intro s acc h _ _; exact ⟨s, by simp, h⟩
  | cons x xs ih =>
    intro s acc h hl hx
    obtain ⟨s1, s2, s3, h1, h2, h3, h4⟩ := hx x (by simp)
    rw [List.length_cons] at hl
    obtain ⟨s', g1, g2⟩ := ih (s := s3) (acc := acc ++ [g x]) h4 (by rw [List.length_append, List.length_singleton]; omega) fun y hy => hx y (List.mem_cons_of_mem _ hy)
    refine ⟨s', ?_, g2⟩
    unfold lcL
    rw [h, h1]
    dsimp only
    rw [h2, nox_ok, ok_bind, if_pos rfl, h3, nox_ok, ok_bind]
    show cif (acc.length < 16777216) _ _ = _
    rw [cif_pos (by omega), g1]
    simp
/-- .. some are left out -/
theorem lcL_some {vs : List Nat} {tg : FG} {t : FT} {e : FE} {p : D → Bool} {g : D → D} {s0 : Sl} : ∀ {xs : List D} {s : Sl} {acc : List D}, wipeF s vs = s0 → acc.length + xs.length ≤ 16777216 →
    (∀ x ∈ xs, ∃ s1 s2, tg x s0 = some s1 ∧ t s1 = .ok (p x) s2 ∧ wipeF s2 vs = s0 ∧ (p x = true → ∃ s3, e s2 = .ok (.im (g x)) s3 ∧ wipeF s3 vs = s0)) → ∃ s', lcL vs tg t e xs s acc = .ok (acc ++ (xs.filter p).map g) s' ∧ wipeF s' vs = s0 := by
  intro xs
  induction xs with
  | nil => intro s acc h _ _; exact ⟨s, by simp, h⟩
  | cons x xs ih =>
    intro s acc h hl hx
    obtain ⟨s1, s2, h1, h2, h3, h4⟩ := hx x (by simp)
    rw [List.length_cons] at hl
    unfold lcL
    rw [h, h1]
    dsimp only
    rw [h2, nox_ok, ok_bind]
    cases hp : p x with
    | true =>
      obtain ⟨s3, h5, h6⟩ := h4 hp
      obtain ⟨s', g1, g2⟩ := ih (s := s3) (acc := acc ++ [g x]) h6 (by rw [List.length_append, List.length_singleton]; omega) fun y hy => hx y (List.mem_cons_of_mem _ hy)
      refine ⟨s', ?_, g2⟩
      rw [if_pos rfl, h5, nox_ok, ok_bind]
      show cif (acc.length < 16777216) _ _ = _
      rw [cif_pos (by omega), g1, List.filter_cons_of_pos hp]
      simp
    | false =>
      obtain ⟨s', g1, g2⟩ := ih (s := s2) (acc := acc) h3 (by omega) fun y hy => hx y (List.mem_cons_of_mem _ hy)
      refine ⟨s', ?_, g2⟩
      rw [if_neg Bool.false_ne_true, g1, List.filter_cons_of_neg (by rw [hp]; exact Bool.false_ne_true)]
end F

/-! FEq: == of plain data. -/
namespace F
open PySem PySem.Spec L2 OD
/-- plain data, so deep: no flags within -/
def pl : Nat → D → Bool
  | _, .non => true
  | _, .int _ => true
  | _, .str s => s.cps.all (· < 0x110000)
  | k + 1, .tup xs => xs.all (pl k)
  | k + 1, .lst xs => xs.all (pl k)
  | _, _ => false
theorem pl_py : ∀ (k : Nat) (d : D), pl k d = true → ∃ p, toPy d = some p ∧ p.canLay0 = true ∧ p.depth ≤ k := by
  have row : ∀ (k : Nat), (∀ (d : D), pl k d = true → ∃ p, toPy d = some p ∧ p.canLay0 = true ∧ p.depth ≤ k) → ∀ xs : List D, xs.all (pl k) = true → ∃ ps, toPys xs = some ps ∧ PyData.canLayAll0 ps = true ∧ PyData.depthAll ps ≤ k := by
    intro k h xs
    induction xs with
    | nil => intro _; exact ⟨[], rfl, by simp [PyData.canLayAll0], by simp [PyData.depthAll]⟩
    | cons x xs ih =>
      intro hx
      rw [List.all_cons, Bool.and_eq_true] at hx
      obtain ⟨p, a1, a2, a3⟩ := h x hx.1
      obtain ⟨ps, b1, b2, b3⟩ := ih hx.2
      exact ⟨p :: ps, by simp [toPys, a1, b1], by simp [PyData.canLayAll0, a2, b2], by simp [PyData.depthAll]; omega⟩
  intro k
  induction k with
  | zero =>
    intro d h
    cases d with
    | non => exact ⟨_, rfl, by simp [PyData.canLay0], by simp [PyData.depth]⟩
    | int i => exact ⟨_, rfl, by simp [PyData.canLay0], by simp [PyData.depth]⟩
    | str s => exact ⟨_, rfl, by unfold pl at h; simpa [PyData.canLay0, PyData.strOk] using h, by simp [PyData.depth]⟩
    | _ => cases h
  | succ k ih =>
    intro d h
    cases d with
    | non => exact ⟨_, rfl, by simp [PyData.canLay0], by simp [PyData.depth]⟩
    | int i => exact ⟨_, rfl, by simp [PyData.canLay0], by simp [PyData.depth]⟩
    | str s => exact ⟨_, rfl, by unfold pl at h; simpa [PyData.canLay0, PyData.strOk] using h, by simp [PyData.depth]⟩
    | tup xs =>
      obtain ⟨ps, a1, a2, a3⟩ := row k ih xs (by unfold pl at h; exact h)
      exact ⟨.tuple ps, by simp [toPy, a1], by simp [PyData.canLay0, a2], by simp [PyData.depth]; omega⟩
    | lst xs =>
      obtain ⟨ps, a1, a2, a3⟩ := row k ih xs (by unfold pl at h; exact h)
      exact ⟨.list ps, by simp [toPy, a1], by simp [PyData.canLay0, a2], by simp [PyData.depth]; omega⟩
    | _ => cases h
theorem pl_eqv : ∀ (k : Nat) (a b : D) (p q : PyData), pl k a = true → pl k b = true → toPy a = some p → toPy b = some q → (PyData.eqv p q = true ↔ a = b) := by
  have row : ∀ (k : Nat), (∀ (a b : D) (p q : PyData), pl k a = true → pl k b = true → toPy a = some p → toPy b = some q → (PyData.eqv p q = true ↔ a = b)) → ∀ (xs ys : List D) (ps qs : List PyData), xs.all (pl k) = true → ys.all (pl k) = true → toPys xs = some ps → toPys ys = some qs → (PyData.eqvAll ps qs = true ↔ xs = ys) := by
    intro k h xs
    induction xs with
    | nil =>
      intro ys ps qs _ _ e1 e2
      cases e1
      cases ys with
      | nil => cases e2; simp [PyData.eqvAll]
      | cons y ys =>
        unfold toPys at e2
        cases ey : toPy y with
        | none => rw [ey] at e2; cases e2
        | some q =>
          cases eys : toPys ys with
          | none => rw [ey, eys] at e2; cases e2
          | some qs' => rw [ey, eys] at e2; cases e2; simp [PyData.eqvAll]
    | cons x xs ih =>
      intro ys ps qs hx hy e1 e2
      rw [List.all_cons, Bool.and_eq_true] at hx
      unfold toPys at e1
      cases ex : toPy x with
      | none => rw [ex] at e1; cases e1
      | some p =>
        cases exs : toPys xs with
        | none => rw [ex, exs] at e1; cases e1
        | some ps' =>
          rw [ex, exs] at e1
          cases e1
          cases ys with
          | nil => cases e2; simp [PyData.eqvAll]
          | cons y ys =>
            rw [List.all_cons, Bool.and_eq_true] at hy
            unfold toPys at e2
            cases ey : toPy y with
            | none => rw [ey] at e2; cases e2
            | some q =>
              cases eys : toPys ys with
              | none => rw [ey, eys] at e2; cases e2
              | some qs' =>
                rw [ey, eys] at e2
                cases e2
                simp only [PyData.eqvAll, Bool.and_eq_true, h x y p q hx.1 hy.1 ex ey, ih ys ps' qs' hx.2 hy.2 exs eys, List.cons.injEq]
  intro k
  induction k with
  | zero =>
    intro a b p q ha hb ea eb
    cases a <;> first
      | (cases ha; done)
      | (cases b <;> first
        | (cases hb; done)
        | (cases ea; cases eb; simp [PyData.eqv]))
  | succ k ih =>
    intro a b p q ha hb ea eb
    have tp : ∀ (xs : List D) (p : PyData), toPy (.tup xs) = some p → ∃ ps, toPys xs = some ps ∧ p = .tuple ps := by
      intro xs p e
      unfold toPy at e
      cases h : toPys xs with
      | none => rw [h] at e; cases e
      | some ps => rw [h] at e; cases e; exact ⟨ps, rfl, rfl⟩
    have tl : ∀ (xs : List D) (p : PyData), toPy (.lst xs) = some p → ∃ ps, toPys xs = some ps ∧ p = .list ps := by
      intro xs p e
      unfold toPy at e
      cases h : toPys xs with
      | none => rw [h] at e; cases e
      | some ps => rw [h] at e; cases e; exact ⟨ps, rfl, rfl⟩
    cases a with
    | tup xs =>
      obtain ⟨ps, e1, rfl⟩ := tp xs p ea
      cases b with
      | tup ys =>
        obtain ⟨qs, e2, rfl⟩ := tp ys q eb
        simp only [PyData.eqv, row k ih xs ys ps qs ha hb e1 e2, D.tup.injEq]
      | lst ys =>
        obtain ⟨qs, e2, rfl⟩ := tl ys q eb
        simp [PyData.eqv]
      | non => cases eb; simp [PyData.eqv]
      | int i => cases eb; simp [PyData.eqv]
      | str s => cases eb; simp [PyData.eqv]
      | _ => cases hb
    | lst xs =>
      obtain ⟨ps, e1, rfl⟩ := tl xs p ea
      cases b with
      | tup ys =>
        obtain ⟨qs, e2, rfl⟩ := tp ys q eb
        simp [PyData.eqv]
      | lst ys =>
        obtain ⟨qs, e2, rfl⟩ := tl ys q eb
        simp only [PyData.eqv, row k ih xs ys ps qs ha hb e1 e2, D.lst.injEq]
      | non => cases eb; simp [PyData.eqv]
      | int i => cases eb; simp [PyData.eqv]
      | str s => cases eb; simp [PyData.eqv]
      | _ => cases hb
    | non =>
      cases ea
      cases b with
      | tup ys => obtain ⟨qs, e2, rfl⟩ := tp ys q eb; simp [PyData.eqv]
      | lst ys => obtain ⟨qs, e2, rfl⟩ := tl ys q eb; simp [PyData.eqv]
      | non => cases eb; simp [PyData.eqv]
      | int i => cases eb; simp [PyData.eqv]
      | str s => cases eb; simp [PyData.eqv]
      | _ => cases hb
    | int i =>
      cases ea
      cases b with
      | tup ys => obtain ⟨qs, e2, rfl⟩ := tp ys q eb; simp [PyData.eqv]
      | lst ys => obtain ⟨qs, e2, rfl⟩ := tl ys q eb; simp [PyData.eqv]
      | non => cases eb; simp [PyData.eqv]
      | int i => cases eb; simp [PyData.eqv]
      | str s => cases eb; simp [PyData.eqv]
      | _ => cases hb
    | str s =>
      cases ea
      cases b with
      | tup ys => obtain ⟨qs, e2, rfl⟩ := tp ys q eb; simp [PyData.eqv]
      | lst ys => obtain ⟨qs, e2, rfl⟩ := tl ys q eb; simp [PyData.eqv]
      | non => cases eb; simp [PyData.eqv]
      | int i => cases eb; simp [PyData.eqv]
      | str s => cases eb; simp [PyData.eqv]
      | _ => cases hb
    | _ => cases ha
/-- == of plain data is being the same -/
theorem eqW_same {a : D} (k : Nat) (hk : k ≤ 64) (h : pl k a = true) : eqW a a = some true := by
  obtain ⟨p, e1, e2, e3⟩ := pl_py k a h
  have e4 := (pl_eqv k a a p p h h e1 e1).mpr rfl
  unfold eqW
  cases e : eqS a a with
  | some c => cases a <;> first | (cases e; done) | (simp [eqS] at e; simp [← e])
  | none =>
    dsimp only
    rw [e1]
    dsimp only
    have hs : SeqAt.shaped p = true := by unfold SeqAt.shaped; rw [e2, Bool.true_and]; exact decide_eq_true (by omega)
    rw [hs]
    simp [e4]
theorem eqW_not {a b : D} (k : Nat) (hk : k ≤ 64) (h : pl k a = true) (hb : pl k b = true) (n : a ≠ b) : eqW a b = some false := by
  obtain ⟨p, e1, e2, e3⟩ := pl_py k a h
  obtain ⟨q, f1, f2, f3⟩ := pl_py k b hb
  have e4 : PyData.eqv p q = false := by
    cases e : PyData.eqv p q with
    | false => rfl
    | true => exact absurd ((pl_eqv k a b p q h hb e1 f1).mp e) n
  have hs : SeqAt.shaped p = true := by unfold SeqAt.shaped; rw [e2, Bool.true_and]; exact decide_eq_true (by omega)
  have hs2 : SeqAt.shaped q = true := by unfold SeqAt.shaped; rw [f2, Bool.true_and]; exact decide_eq_true (by omega)
  unfold eqW
  cases e : eqS a b with
  | some c =>
    cases a <;> cases b <;> first
      | (cases e; done)
      | (cases h; done)
      | (cases hb; done)
      | (cases e; rfl)
      | (exact absurd rfl n)
      | (simp [eqS] at e; rw [← e]; simp; intro z; exact n (by rw [z]))
  | none =>
    dsimp only
    rw [e1, f1]
    dsimp only
    rw [hs, hs2]
    simp [e4]
end F

/-! OD19: dicts that are equal. -/
namespace OD
open PySem PySem.Spec L2
section
variable {X : Cx} {K : PySem.W.Frag}
def rEqDR (n : Bool) : R2 := fun x y H Q => ∃ a b ks ls, x = .ref a ∧ y = .ref b ∧ Rd H a (.dK ks) ∧ Rd H b (.dK ls) ∧ ks.length = ls.length ∧ (∀ p ∈ ks, valV ls p.1 = some p.2 ∧ flatB p.2 = true) ∧ Q (.bl n) H
theorem op_eqDR (hu : X.A.units < cLine) : OpR X (compareOp .Eq) (rEqDR true) := by
  intro pins s σ H x y v u Q I rx ry h
  obtain ⟨a, b, ks, ls, rfl, rfl, ea, eb, hlen, hp, q⟩ := h
  obtain rfl : v = Value.ref a := rx
  obtain rfl : u = Value.ref b := ry
  obtain ⟨_, ya, va, ra, da⟩ := (show ObjOk X.prog X.w H s.heap a (.dK ks) from ea.ok I.hok)
  obtain ⟨_, yb, vb, rb, db⟩ := (show ObjOk X.prog X.w H s.heap b (.dK ls) from eb.ok I.hok)
  have hl : va.length = vb.length := by rw [← ra.length, ← rb.length]; exact hlen
  exact PySem.W.keq_eq (knd := mixKind X.prog X.w) (r := true) ya yb da db hu (fun _ => hits_all rb ra hp) (fin_bl I q (by simp [hl]))
theorem op_neDR (hu : X.A.units < cLine) : OpR X (compareOp .NotEq) (rEqDR false) := by
  intro pins s σ H x y v u Q I rx ry h
  obtain ⟨a, b, ks, ls, rfl, rfl, ea, eb, hlen, hp, q⟩ := h
  obtain rfl : v = Value.ref a := rx
  obtain rfl : u = Value.ref b := ry
  obtain ⟨_, ya, va, ra, da⟩ := (show ObjOk X.prog X.w H s.heap a (.dK ks) from ea.ok I.hok)
  obtain ⟨_, yb, vb, rb, db⟩ := (show ObjOk X.prog X.w H s.heap b (.dK ls) from eb.ok I.hok)
  have hl : va.length = vb.length := by rw [← ra.length, ← rb.length]; exact hlen
  exact PySem.W.keq_ne (knd := mixKind X.prog X.w) (r := true) ya yb da db hu (fun _ => hits_all rb ra hp) (fin_bl I q (by simp [hl]))
def flatD : D → Bool
  | .non => true | .bl _ => true | .int _ => true | .str _ => true
  | _ => false
theorem flat_rep {S : Mark} {H : Hp} {v v' : V} {d : D} (h : flatD d = true) (r : Rep K S H v d) (r' : Rep K S H v' d) : v' = v ∧ flatB v = true := by
  cases r <;> first | (cases h; done) | (cases r'; exact ⟨rfl, rfl⟩)
/-- equal dicts: the same keys, the same plain values -/
def eqKD (n : Bool) (x y : D) (M : Mem) (Q : DK) : Prop := ∃ ks ls, x = .dic ks ∧ y = .dic ls ∧ ks.length = ls.length ∧ (∀ p ∈ ks, lookD ls p.1 = some p.2 ∧ flatD p.2 = true) ∧ Q (.bl n) M
theorem RepsK.mem {S : Mark} {H : Hp} : ∀ {kvs : List (Key × D)} {ws : List (Key × V)}, RepsK K S H ws kvs → ∀ w ∈ ws, ∃ d, (w.1, d) ∈ kvs ∧ Rep K S H w.2 d := by
  intro kvs
  induction kvs with
  | nil => intro ws h w hw; cases h; cases hw
  | cons p r ih =>
    intro ws h w hw
    cases h with
    | cons a b =>
      rcases List.mem_cons.mp hw with e | e
      · subst e; exact ⟨_, List.mem_cons_self, a⟩
      · obtain ⟨d, h1, h2⟩ := ih b w e
        exact ⟨d, List.mem_cons_of_mem _ h1, h2⟩
theorem sv_eqK {n : Bool} : SimV2 K (rEqDR n) (eqKD n) := by
  intro S0 M H x y dx dy Q QD m rx ry h l
  obtain ⟨ks, ls, rfl, rfl, hl, hp, q⟩ := h
  obtain ⟨a, va, rfl, h1, r1⟩ := rx.dic_inv
  obtain ⟨b, vb, rfl, h2, r2⟩ := ry.dic_inv
  refine ⟨a, b, va, vb, rfl, rfl, h1, h2, by rw [r1.length, r2.length]; exact hl, fun w hw => ?_, l.now m (.bl _) q⟩
  obtain ⟨d, e1, e2⟩ := r1.mem w hw
  obtain ⟨g1, g2⟩ := hp _ e1
  obtain ⟨v, g3, g4⟩ := r2.val g1
  obtain ⟨g5, g6⟩ := flat_rep g2 e2 g4
  exact ⟨by rw [g3, g5], g6⟩
end
section
open PyProof.Rows
variable {X : Cx} {E : L2.St → XK} {tg iter : Expr} {pos : Pos}
theorem sw_trueD {kx vx : Expr} {gs : List Comprehension} {scope : Scope} {pos py : Pos} {y : Str} {l : Nat} {env : Env} (hk : env.scope.kind = .function) (hy : env.scope.names.lookup y = some .local) (hl : (py.line == pos.line) = true)
    (ha : (scope.names.any fun (n, k) => n == y && (k == .local || k == .cell)) = false) : swapsWith (.DictComp kx vx gs scope pos) (some (.Name y py)) l env = pure true := by
  have ky : env.kindOf y = some .local := hy
  have hb : env.blockKind = .function := by unfold Env.blockKind; rw [hk]; rfl
  unfold swapsWith
  simp only [hb, ky, ha, Expr.pos, hl]
  rfl
/-- y = {k: v for ..} -/
theorem ps_setDc {i : Nat} {y : Str} {py : Pos} {kx vx tg iter : Expr} {ifs : List Expr} {scope : Scope} {own : List (Str × Nat)} {pos spos : Pos} {wi : TI} {g : TG} {tt : TT} {tk tv : TE} (hc : X.calm = true) (hN : X.N.Nodup) (hy : X.N[i]? = some y) (hyl : X.env.scope.names.lookup y = some .local)
    (hsw : swapsWith (.DictComp kx vx [⟨tg, iter, ifs, 0⟩] scope pos) (some (.Name y py)) spos.line X.env = pure true) (hi : PI X tg iter wi) (ok : BlkOk X.N X.env.scope scope own)
    (hg : ∀ (s : Shared) (H : Hp) (C : Addr) (cl : List (Str × Addr)) (fp : List Addr), PG (X.blk s H scope (compEnvC scope cl C X.env) fp) tg g) (ht : ∀ (s : Shared) (H : Hp) (C : Addr) (cl : List (Str × Addr)) (fp : List Addr), PTs (X.blk s H scope (compEnvC scope cl C X.env) fp) ifs tt)
    (hk : ∀ (s : Shared) (H : Hp) (C : Addr) (cl : List (Str × Addr)) (fp : List Addr), PE (X.blk s H scope (compEnvC scope cl C X.env) fp) kx tk)
    (he : ∀ (s : Shared) (H : Hp) (C : Addr) (cl : List (Str × Addr)) (fp : List Addr), PE (X.blk s H scope (compEnvC scope cl C X.env) fp) vx tv) (hs : ∀ x, foldedSetIterable iter X.env x = pure x := by intro _; rfl) :
    PS X (.Assign [.Name y py] (.DictComp kx vx [⟨tg, iter, ifs, 0⟩] scope pos) spos) (tAsg (tDc wi g tt tk tv (own.map (·.2))) (gName i)) := by
  refine ⟨fun pins s σ H D I h => ?_⟩
  rw [exec_Assign_Name_used _ _ _ _ hsw]
  refine wpAny_bind (wpAny_standAt (wpAny_bind ?_))
  show wpAny _ X.A (do let _ ← comprehension (.DictComp kx vx [⟨tg, iter, ifs, 0⟩] scope pos) scope X.env (firstIterPos [⟨tg, iter, ifs, 0⟩] pos) newDict false (eval iter X.env) (some (assign (.Name y py) X.env))) _ _ s
  have h : tDc wi g tt tk tv (own.map (·.2)) σ H (fun x H1 => gName i x σ H1 D.nx) := h
  refine wpAny_bind (thn (dc_core (Qf := fun _ s' => SP X pins D .next s') hc hN I hi ok hg ht hk he hs h fun L C s' m H' I' q hn f => ?_) fun _ s' hq => wpAny_pure (wpAny_pure hq))
  show wpAny _ _ (assign (.Name y py) X.env (.ref L)) _ _ _
  refine wpAny_assign_Name (store_ok2 (v := V.ref L) I' hN hy (.inl hyl) rfl (fun s2 I2 ⟨a, sb, ha⟩ => ?_) (.inr hyl))
  obtain ⟨f0, f1, f2, f3, f4, f5⟩ := f
  have haC : C ≠ a := by
    rcases ha with z | z
    · rw [z]; exact f1
    · exact fun e => f4 y a z e.symm
  refine ⟨m, hn.sameBut sb haC, fun h3 sb3 => ?_⟩
  exact ⟨_, H', I2.turned (t' := s2.toks) (fun b o hb e => (sb3.2 b hb).trans e) f0 f1 f3 f4 f5, q⟩
theorem ds_setDc (o : Bool) {i : Nat} {y : Str} {py spos : Pos} {scope : Scope} {own : List (Str × Nat)} {ifs : List Expr} {kx elt : Expr} {di : DI} {dg : DG} {tt : DT} {tk te : DE} (hc : X.calm = true) (hN : X.N.Nodup) (hi : DIx X E tg iter di) (ok : BlkOk X.N X.env.scope scope own)
    (hg : ∀ (s : Shared) (H : Hp) (C : Addr) (cl : List (Str × Addr)) (fp : List Addr), DCx (X.blk s H scope (compEnvC scope cl C X.env) fp) tg (own.map (·.2)) dg)
    (ht : ∀ (s : Shared) (H : Hp) (C : Addr) (cl : List (Str × Addr)) (fp : List Addr), DPx (X.blk s H scope (compEnvC scope cl C X.env) fp) (fun _ => E0) ifs tt)
    (hk : ∀ (s : Shared) (H : Hp) (C : Addr) (cl : List (Str × Addr)) (fp : List Addr), DEx (X.blk s H scope (compEnvC scope cl C X.env) fp) (fun _ => E0) kx tk)
    (he : ∀ (s : Shared) (H : Hp) (C : Addr) (cl : List (Str × Addr)) (fp : List Addr), DEx (X.blk s H scope (compEnvC scope cl C X.env) fp) (fun _ => E0) elt te)
    (hy : X.N[i]? = some y := by rfl) (hyl : X.env.scope.names.lookup y = some .local := by rfl) (hkk : X.env.scope.kind = .function := by rfl) (hl : (py.line == pos.line) = true := by rfl)
    (ha : (scope.names.any fun (n, k) => n == y && (k == .local || k == .cell)) = false := by rfl) (hs : ∀ x, foldedSetIterable iter X.env x = pure x := by intro _; rfl) :
    DSx X E (.Assign [.Name y py] (.DictComp kx elt [⟨tg, iter, ifs, 0⟩] scope pos) spos) (dAsg (dDc o di (own.map (·.2)) dg tt tk te) (dName i)) := by
  obtain ⟨wi, p1, s1⟩ := hi
  refine ⟨_, ps_setDc (g := fun v σ H Q => ∀ s H0 C cl fp, (hg s H0 C cl fp).ex.choose v σ H Q) (tt := fun σ H Q => ∀ s H0 C cl fp, (ht s H0 C cl fp).ex.choose σ H Q) (tk := fun σ H Q => ∀ s H0 C cl fp, (hk s H0 C cl fp).ex.choose σ H Q) (tv := fun σ H Q => ∀ s H0 C cl fp, (he s H0 C cl fp).ex.choose σ H Q) hc hN hy hyl (sw_trueD hkk hyl hl ha) p1 ok
    (fun s H0 C cl fp => ⟨fun pins st σ H v u Q I r h => (hg s H0 C cl fp).ex.choose_spec.1.run pins st σ H v u Q I r (h s H0 C cl fp)⟩)
    (fun s H0 C cl fp => ⟨fun pins st σ H Q I h => (ht s H0 C cl fp).ex.choose_spec.1.run pins st σ H Q I (h s H0 C cl fp)⟩)
    (fun s H0 C cl fp => ⟨fun pins st σ H Q I h => (hk s H0 C cl fp).ex.choose_spec.1.run pins st σ H Q I (h s H0 C cl fp)⟩)
    (fun s H0 C cl fp => ⟨fun pins st σ H Q I h => (he s H0 C cl fp).ex.choose_spec.1.run pins st σ H Q I (h s H0 C cl fp)⟩) hs, sim_asg (sim_dc (E' := fun _ => E0) s1 ?_ ?_ ?_ ?_ ?_) sim_name⟩
  · exact fun S0 sl M σ H v d Q QD k r h l s H0 C cl fp => (hg s H0 C cl fp).ex.choose_spec.2.1 S0 sl M σ H v d Q QD k r h l
  · exact fun v σ H Q h s H0 C cl fp => (hg s H0 C cl fp).ex.choose_spec.2.2.1 v σ H Q (h s H0 C cl fp)
  · exact fun S0 sl M σ H Q QD ED k xl h l s H0 C cl fp => (ht s H0 C cl fp).ex.choose_spec.2 S0 sl M σ H Q QD ED k xl h l
  · exact fun S0 sl M σ H Q QD ED k xl h l s H0 C cl fp => (hk s H0 C cl fp).ex.choose_spec.2 S0 sl M σ H Q QD ED k xl h l
  · exact fun S0 sl M σ H Q QD ED k xl h l s H0 C cl fp => (he s H0 C cl fp).ex.choose_spec.2 S0 sl M σ H Q QD ED k xl h l
end
end OD

/-! OD20: is True, is False, of flags. -/
namespace OD
open PySem PySem.Spec L2
section
variable {X : Cx} {K : PySem.W.Frag}
def rIsBl (n : Bool) : R2 := fun x y H Q => ∃ a b : Bool, x = .bl a ∧ y = .bl b ∧ Q (.bl (xorB n (decide (a = b)))) H
theorem op_isBl : OpR X (compareOp .Is) (rIsBl false) := by
  intro pins s σ H x y v u Q I rx ry h
  obtain ⟨a, b, rfl, rfl, q⟩ := h
  cases (show v = Value.bool a from rx)
  cases (show u = Value.bool b from ry)
  by_cases e : a = b
  · subst e
    exact wpAny_is_self rfl ⟨.bl true, H, I, rfl, by simpa [xorB] using q⟩
  · exact wpAny_is_other rfl (fun z => e (Value.bool.inj z)) ⟨.bl false, H, I, rfl, by simpa [e, xorB] using q⟩
theorem op_notBl : OpR X (compareOp .IsNot) (rIsBl true) := by
  intro pins s σ H x y v u Q I rx ry h
  obtain ⟨a, b, rfl, rfl, q⟩ := h
  cases (show v = Value.bool a from rx)
  cases (show u = Value.bool b from ry)
  by_cases e : a = b
  · subst e
    exact wpAny_isNot_self rfl ⟨.bl false, H, I, rfl, by simpa [xorB] using q⟩
  · exact wpAny_isNot_other rfl (fun z => e (Value.bool.inj z)) ⟨.bl true, H, I, rfl, by simpa [e, xorB] using q⟩
def isBD (n : Bool) (x y : D) (M : Mem) (Q : DK) : Prop := ∃ a b, x = .bl a ∧ y = .bl b ∧ Q (.bl (xorB n (decide (a = b)))) M
theorem sv_isB {n : Bool} : SimV2 K (rIsBl n) (isBD n) := by
  intro S0 M H x y dx dy Q QD m rx ry h l
  obtain ⟨a, b, rfl, rfl, q⟩ := h
  cases rx.bl_inv
  cases ry.bl_inv
  exact ⟨a, b, rfl, rfl, l.now m (.bl _) q⟩
end
end OD

/-! F16: dicts that are equal. -/
namespace F
open PySem PySem.Spec L2 OD
noncomputable def eqKF (n : Bool) : D → D → Option D
  | .dic ks, .dic ls => cif (ks.length = ls.length ∧ ∀ p ∈ ks, lookD ls p.1 = some p.2 ∧ flatD p.2 = true) (some (.bl n)) none
  | _, _ => none
theorem eqKF_ok {n : Bool} : OpF (eqKD n) (eqKF n) := by
  intro x y z M Q h q
  unfold eqKF at h
  split at h
  · obtain ⟨⟨h1, h2⟩, rfl⟩ := cif_inv h
    exact ⟨_, _, rfl, rfl, h1, h2, q⟩
  · cases h
theorem eqKF_yes {n : Bool} {ks ls : List (Key × D)} (h : ks.length = ls.length) (h2 : ∀ p ∈ ks, lookD ls p.1 = some p.2 ∧ flatD p.2 = true) : eqKF n (.dic ks) (.dic ls) = some (.bl n) := by
  show cif _ _ _ = _
  rw [cif_pos ⟨h, h2⟩]
end F

/-! F17: is True, is False. -/
namespace F
open PySem PySem.Spec L2 OD
@[simp] def isBF (n : Bool) : D → D → Option D
  | .bl a, .bl b => some (.bl (xorB n (decide (a = b))))
  | _, _ => none
theorem isBF_ok {n : Bool} : OpF (isBD n) (isBF n) := by
  intro x y z M Q h q
  cases x <;> cases y <;> first | (cases h; done) | (cases h; exact ⟨_, _, rfl, rfl, q⟩)
end F

/-! OD21: a, b, c = e1, e2, e3. -/
namespace OD
open PySem PySem.Spec L2
section
variable {X : Cx} {E : L2.St → XK} {a b c : Expr} {pos : Pos} {dr : DA}
def dPar3 (i j l : Nat) (dr : DA) : DS := fun Dd sl M => dr sl M (Dd.ex sl) fun ds M1 => ∃ u v w, ds = [u, v, w] ∧ Dd.nx (((sl.set i (some u)).set j (some v)).set l (some w)) M1
theorem ds_par3 {i j l : Nat} {x y z : Str} {px py pz pt : Pos} {kt k2 pt2} (hc : X.calm = true) (hN : X.N.Nodup) (h : DAx X E [a, b, c] dr) (hi : X.N[i]? = some x := by rfl) (hj : X.N[j]? = some y := by rfl) (hl : X.N[l]? = some z := by rfl) (hij : i ≠ j := by decide) (hil : i ≠ l := by decide) (hjl : j ≠ l := by decide)
    (hx : X.env.scope.names.lookup x = some .local := by rfl) (hy : X.env.scope.names.lookup y = some .local := by rfl) (hz : X.env.scope.names.lookup z = some .local := by rfl)
    (hw : swappedStores [.Tuple [.Name x px, .Name y py, .Name z pz] kt pt] (.Tuple [a, b, c] k2 pt2) X.env = pure (some [x, y, z]) := by rfl)
    (hs : swapsWithSole [.Tuple [.Name x px, .Name y py, .Name z pz] kt pt] (.Tuple [a, b, c] k2 pt2) pos.line X.env = pure false := by rfl) :
    DSx X E (.Assign [.Tuple [.Name x px, .Name y py, .Name z pz] kt pt] (.Tuple [a, b, c] k2 pt2) pos) (dPar3 i j l dr) := by
  obtain ⟨t, p, s⟩ := h
  refine ⟨_, ps_par3 hc hN hi hj hl hij hil hjl hx hy hz p hw hs, fun S0 sl M σ H Dd Dn k l h => s S0 sl M σ H _ _ _ k (l.xl k) h fun ds M1 vs H1 m1 x1 r1 q1 => ?_⟩
  obtain ⟨u, v, w, rfl, q⟩ := q1
  cases r1 with
  | cons ra rb =>
    cases rb with
    | cons rb rc =>
      cases rc with
      | cons rc rd =>
        cases rd
        exact ⟨_, _, _, rfl, l.nx _ M1 _ H1 ((((k.ext m1 x1).set i ra).set j rb).set _ rc) x1 q⟩
end
end OD

/-! F18: calls whose last argument is an owned object that no name holds. -/
namespace F
open PySem PySem.Spec L2 OD
/-- the value in hand, as one more slot -/
theorem Rl.push {c : Cz} {fs : Sl} {sl : Slots} {M : Mem} {w : Sv} {d : D} {E : Nat → Mem} (h : Rl c fs sl M w d E) :
    Rl { c with np := min c.np fs.length } (fs ++ [some w]) (sl ++ [some d]) M (.im .non) .non (fun i => if i = 0 then [] else if i = fs.length + 1 then E 0 else if fs.length + 1 < i then [] else E i) := by
  have key : ∀ i a, a ∈ keys (if i = 0 then [] else if i = fs.length + 1 then E 0 else if fs.length + 1 < i then [] else E i) → (i = fs.length + 1 ∧ a ∈ keys (E 0)) ∨ (0 < i ∧ i < fs.length + 1 ∧ a ∈ keys (E i)) := fun i a ha => by
    split at ha
    · cases ha
    · split at ha
      · rename_i e; exact .inl ⟨e, ha⟩
      · split at ha
        · cases ha
        · exact .inr ⟨by omega, by omega, ha⟩
  refine ⟨h.nd, by rw [List.length_append, List.length_append, h.len]; rfl, ⟨rfl, rfl⟩, fun i sv e => ?_, fun i e he => ?_, fun i => ?_, fun i j a n ha hb => ?_, fun i hi => ?_, fun i a hi ha => ?_, h.pre, h.lks, fun e he i hi => ?_⟩
  · rw [if_neg (Nat.succ_ne_zero i)]
    by_cases z : i < fs.length
    · rw [List.getElem?_append_left z] at e
      obtain ⟨d', h1, h2⟩ := h.slt i sv e
      refine ⟨d', by rw [List.getElem?_append_left (by rw [← h.len]; exact z)]; exact h1, ?_⟩
      rw [if_neg (by omega), if_neg (by omega)]; exact h2
    · rw [List.getElem?_append_right (by omega)] at e
      have z2 : i = fs.length := by
        by_cases y : i = fs.length
        · exact y
        · rw [List.getElem?_eq_none (by simp; omega)] at e; cases e
      subst z2
      rw [Nat.sub_self] at e
      cases e
      refine ⟨d, by rw [h.len, List.getElem?_append_right (Nat.le_refl _), Nat.sub_self]; rfl, ?_⟩
      rw [if_pos rfl]; exact h.tmp
  · split at he
    · cases he
    · split at he
      · exact h.sub 0 e he
      · split at he
        · cases he
        · exact h.sub i e he
  · split
    · exact List.nodup_nil
    · split
      · exact h.ndE 0
      · split
        · exact List.nodup_nil
        · exact h.ndE i
  · rcases key i a ha with ⟨p, q⟩ | ⟨p, p2, q⟩ <;> rcases key j a hb with ⟨p', q'⟩ | ⟨p', p2', q'⟩
    · omega
    · exact h.dis 0 j a (by omega) q q'
    · exact h.dis i 0 a (by omega) q q'
    · exact h.dis i j a n q q'
  · have hi' : i < c.np ∧ i < fs.length := by
      have : i < min c.np fs.length := hi
      omega
    rw [if_neg (Nat.succ_ne_zero i), if_neg (by omega), if_neg (by omega)]
    exact h.pin i hi'.1
  · rcases key i a ha with ⟨p, q⟩ | ⟨p, p2, q⟩
    · exact h.frs 0 a (.inl rfl) q
    · refine h.frs i a (.inr ?_) q
      rcases hi with hi | hi
      · omega
      · have : min c.np fs.length < i := hi
        omega
  · rcases key i e.1 hi with ⟨p, q⟩ | ⟨p, p2, q⟩
    · exact h.lkd e he 0 q
    · exact h.lkd e he i q
/-- the last slot is let go -/
theorem RelW.pull {c : Cz} {n : Nat} {fs : Sl} {sl : Slots} {M : Mem} {w : Sv} {d : D} {x : Option D} (h : RelW { c with np := n } fs (sl ++ [x]) M w d) (hn : n = min c.np sl.length) : RelW c (fs.take sl.length) sl M w d := by
  obtain ⟨E, h⟩ := h
  have hl : fs.length = sl.length + 1 := by have := h.len; rw [List.length_append] at this; exact this
  have key : ∀ i a, a ∈ keys (if sl.length < i then [] else E i) → i ≤ sl.length ∧ a ∈ keys (E i) := fun i a ha => by
    split at ha
    · cases ha
    · exact ⟨by omega, ha⟩
  refine ⟨fun i => if sl.length < i then [] else E i, h.nd, by rw [List.length_take]; omega, by rw [if_neg (by omega)]; exact h.tmp, fun i sv e => ?_, fun i e he => ?_, fun i => ?_, fun i j a n ha hb => ?_, fun i hi => ?_, fun i a hi ha => ?_, h.pre, h.lks, fun e he i hi => ?_⟩
  · have hi : i < sl.length := by
      by_cases y : i < sl.length
      · exact y
      · rw [List.getElem?_eq_none (by rw [List.length_take]; omega)] at e; cases e
    rw [List.getElem?_take_of_lt hi] at e
    obtain ⟨d', h1, h2⟩ := h.slt i sv e
    rw [List.getElem?_append_left hi] at h1
    exact ⟨d', h1, by rw [if_neg (by omega)]; exact h2⟩
  · split at he
    · cases he
    · exact h.sub i e he
  · split
    · exact List.nodup_nil
    · exact h.ndE i
  · exact h.dis i j a n (key i a ha).2 (key j a hb).2
  · by_cases y : i < sl.length
    · rw [if_neg (by omega)]
      exact h.pin i (by show i < n; omega)
    · left; rw [if_pos (by omega)]
  · obtain ⟨p, q⟩ := key i a ha
    refine h.frs i a ?_ q
    rcases hi with hi | hi
    · exact .inl hi
    · right; show n < i; omega
  · exact h.lkd e he i (key i e.1 hi).2
section
variable {fa fb fc : FE} {da db dc : DE} {dr : DA}
abbrev FRT := Sl → R (List AD × Sv)
def PoRT (c : Cz) (sl : Slots) (ED : XD) (Q : List D → Mem → Prop) : R (List AD × Sv) → Prop
  | .ok x fs => ∀ ds d M, RelW c fs sl M x.2 d → ArgD sl x.1 ds → Q (ds ++ [d]) M
  | .ex cls f fs => ∀ M, Rel c fs sl M → ED cls f M
  | .bad => False
def SimRT (fr : FRT) (dr : DA) : Prop := ∀ (c : Cz) (fs : Sl) (sl : Slots) (M : Mem) (ED : XD) (Q : List D → Mem → Prop), Rel c fs sl M → PoRT c sl ED Q (fr fs) → dr sl M ED Q
@[simp] def rtL (a : FE) (s : Sl) : R (List AD × Sv) := (a s).bind fun w s => .ok ([], w) s
@[simp] def rtE (a : FE) (r : FRT) (s : Sl) : R (List AD × Sv) := (a s).bind fun w s => imK w fun d => (r s).bind fun x s => .ok (.inl d :: x.1, x.2) s
@[simp] def rtO (j : Nat) (r : FRT) (s : Sl) : R (List AD × Sv) := match s[j]? with
  | some (some _) => (r s).bind fun x s => .ok (.inr j :: x.1, x.2) s
  | _ => .bad
theorem rt_l (ha : SimE fa da) : SimRT (rtL fa) (dCons da dNil) := by
  intro c fs sl M ED Q r q
  refine ha c fs sl M ED _ r ?_
  unfold rtL at q
  cases e : fa fs with
  | ok w fs1 =>
    rw [e, ok_bind] at q
    intro d' M1 r1
    exact q [] d' M1 r1 .nil
  | ex cl f' fs' => rw [e] at q; exact q
  | bad => rw [e] at q; exact q.elim
theorem rt_e {fr : FRT} (ha : SimE fa da) (hr : SimRT fr dr) : SimRT (rtE fa fr) (dCons da dr) := by
  intro c fs sl M ED Q r q
  refine ha c fs sl M ED _ r ?_
  unfold rtE at q
  cases e : fa fs with
  | ok w fs1 =>
    rw [e, ok_bind] at q
    cases w with
    | im d =>
      intro d' M1 r1
      obtain rfl := r1.eq
      refine hr c fs1 sl M1 ED _ r1.rel ?_
      unfold imK at q
      dsimp only at q
      cases e2 : fr fs1 with
      | ok x fs2 => rw [e2] at q; exact fun ds d M r a => q (_ :: ds) d M r (.d a)
      | ex cl f' fs' => rw [e2] at q; exact q
      | bad => rw [e2] at q; exact q.elim
    | _ => exact q.elim
  | ex cl f' fs' => rw [e] at q; exact q
  | bad => rw [e] at q; exact q.elim
theorem rt_o {fr : FRT} {j : Nat} (hr : SimRT fr dr) : SimRT (rtO j fr) (dCons (dVar j) dr) := by
  intro c fs sl M ED Q r q
  unfold rtO at q
  split at q
  · rename_i sv e
    obtain ⟨E, r'⟩ := r
    obtain ⟨d, h1, h2⟩ := r'.slt j _ e
    refine ⟨d, h1, hr c fs sl M ED _ ⟨E, r'⟩ ?_⟩
    cases e2 : fr fs with
    | ok x fs2 => rw [e2] at q; exact fun ds d M r a => q (_ :: ds) d M r (.o h1 a)
    | ex cl f' fs' => rw [e2] at q; exact q
    | bad => rw [e2] at q; exact q.elim
  · exact q.elim
theorem ArgD.snoc {sl : Slots} {xs : List AD} {ds : List D} {d : D} (h : ArgD sl xs ds) : ArgD (sl ++ [some d]) (xs ++ [.inr sl.length]) (ds ++ [d]) := by
  induction h with
  | nil => exact .o (by rw [List.getElem?_append_right (Nat.le_refl _), Nat.sub_self]; rfl) .nil
  | d h ih => exact .d ih
  | o e h ih => exact .o (by rw [List.getElem?_append_left (List.getElem?_eq_some_iff.mp e).1]; exact e) ih
@[simp] def dropL (n : Nat) : R Sv → R Sv
  | .ok w s => .ok w (s.take n)
  | .ex _ _ _ => .bad
  | .bad => .bad
@[simp] def fCallT (np : Nat) (ff : FF) (r : FRT) (s : Sl) : R Sv := (r s).bind fun x s => dropL s.length (call np ff (x.1 ++ [.inr s.length]) (s ++ [some x.2]))
theorem s_callT {n : Nat} {ff : FF} {fr : FRT} (hr : SimRT fr dr) : SimE (fCallT n ff fr) (dCallN (fdN n ff) dr) := by
  intro c fs sl M ED Q r q
  refine hr c fs sl M ED _ r ?_
  unfold fCallT at q
  cases e : fr fs with
  | ok x fs1 =>
    obtain ⟨xs, wt⟩ := x
    rw [e, ok_bind] at q
    intro ds dt M1 r0 ha0
    obtain ⟨E0, r0⟩ := r0
    have r1 := r0.push
    have hl := r0.len
    have ha := ha0.snoc (d := dt)
    rw [← hl] at ha
    dsimp only at q
    generalize hxs : xs ++ [Sum.inr fs1.length] = ys at q ha
    generalize hfx : fs1 ++ [some wt] = fx at q r1
    unfold call at q
    cases eg : argSv fx ys with
    | none => rw [eg] at q; exact q.elim
    | some args =>
      rw [eg] at q
      dsimp only at q
      by_cases hh : args.length = n ∧ (ownJ fx ys).Nodup
      · rw [if_pos hh] at q
        have en := args_ents r1 ha eg
        obtain ⟨ks, hks⟩ := at_of (es_sub r1 eg)
        refine ⟨ks, hks.nd (nd_es r1 eg hh.2), by rw [hks.sel, hks.len], ?_⟩
        rw [hks.sel]
        refine ⟨nd_es r1 eg hh.2, args, _, hh.1, en, rfl, ?_⟩
        cases ef : ff args with
        | ok w outs =>
          rw [ef] at q
          intro d Ew Es' g1 g2 g3 g4
          refine q d _ ?_
          have := (call_ok r1 ha eg hh.2 hks g1 g2 g3 g4).pull (by rw [hl])
          rw [← hl] at this
          exact this
        | ex cl f outs => rw [ef] at q; exact q.elim
        | bad => rw [ef] at q; exact q.elim
      · rw [if_neg hh] at q; exact q.elim
  | ex cl f' fs' => rw [e] at q; exact q
  | bad => rw [e] at q; exact q.elim
@[simp] def fPar3 (i j l : Nat) (a : FA) (s : Sl) : O := (a s).thn fun ds s => match ds with
  | [u, v, w] => .nx (((s.set i (some (.im u))).set j (some (.im v))).set l (some (.im w)))
  | _ => .bad
theorem s_par3 {np i j l : Nat} {as : FA} (ha : SimA as dr) : SimS np (fPar3 i j l as) (dPar3 i j l dr) := by
  intro c hc Dd fs sl M r q
  refine ha c fs sl M _ _ r (poA_st q fun ds fs1 e q M1 r1 => ?_)
  split at q
  · rename_i u v w
    exact ⟨u, v, w, rfl, q _ M1 (((r1.set i u).set j v).set l w)⟩
  · exact q.elim
end
end F

/-! F19: defs that call themselves, by how deep they may go. -/
namespace F
open PySem PySem.Spec L2 OD
/-- the function of a def that calls itself, at most so deep -/
noncomputable def fRec (np nl : Nat) (body : FF → FS) : Nat → FF
  | 0 => fun _ => .bad
  | j + 1 => fDef np nl (body (fRec np nl body j))
theorem fdF_none {x : Bool} {np : Nat} {ds : List D} {M : Mem} {ED : XD} {QD : DK} (h : fdF x np (fun _ => .bad) ds M ED QD) : False := by
  obtain ⟨args, Es, _, _, _, h⟩ := h
  exact h
theorem DefOk.none {P : Program} {w : World} {K : PySem.W.Frag} {mg : Str → Option Value} {base : Heap} {x y : Str} {st : Stmt} {f : Addr} {fd : FuncData} {ps : List Str} {k np : Nat}
    (Fn : Fun K x x st f fd) (m : mg y = some (.ref f)) (b : Binds K fd ps []) : DefOk P w K mg base k y ps (fdN np fun _ => .bad) :=
  ⟨f, fd, m, Fn.kp, b, ⟨fun vs H Q E h => by
    obtain ⟨_, _, _, _, _, _, _, h, _⟩ := h
    exact (fdF_none h.2).elim, fun A outer s H args us vs Q E hr he hb hv h => by
    obtain ⟨_, _, _, _, _, _, _, h, _⟩ := h
    exact (fdF_none h.2).elim⟩⟩
theorem DefOk.rec {P : Program} {w : World} {K : PySem.W.Frag} {mg : Str → Option Value} {base : Heap} {x y : Str} {st : Stmt} {f : Addr} {fd : FuncData} {N ps : List Str} {k np nl : Nat} {body : FF → FS} {td : FF → DS}
    (Fn : Fun K x x st f fd) (m : mg y = some (.ref f)) (b : Binds K fd ps []) (S : FnScope N ps (defScope st)) (hp : ps.length = np) (hn : N.length = np + nl)
    (hder : ∀ (ff : FF) (j : Nat), DefOk P w K mg base (k + j) y ps (fdN np ff) → ∀ (cdv : Value) (A : Around) (outer : List Env) (s : Shared) (H : Hp) (E : XK), Room (k + j) (A.deeper (PyProof.Rows.envOfC x (defScope st) s.heap.objs.size f cdv)) →
      DBx (cxOf CX0 P w K mg base N x (defScope st) f cdv A outer s H E).nox (fun _ => E0) (defBody st) (td ff)) (hs : ∀ ff, SimS np (body ff) (td ff)) : ∀ j, DefOk P w K mg base (k + j) y ps (fdN np (fRec np nl body j)) := by
  intro j
  induction j with
  | zero => exact DefOk.none Fn m b
  | succ j ih => exact DefOk.fnA Fn m b S hp hn (hder _ j ih) (hs _)
end F

/-! OD22: texts joined. -/
namespace OD
open PySem PySem.Spec L2
def strsD : List D → Option (List Str)
  | [] => some []
  | .str x :: r => (strsD r).map (x :: ·)
  | _ :: _ => none
theorem reps_strs {K : PySem.W.Frag} {S : Mark} {H : Hp} : ∀ {ds : List D} {vs : List V} {ys : List Str}, Reps K S H vs ds → strsD ds = some ys → vs = ys.map V.str := by
  intro ds
  induction ds with
  | nil => intro vs ys r h; cases h; cases r; rfl
  | cons d ds ih =>
    intro vs ys r h
    cases d with
    | str x =>
      have h : (strsD ds).map (x :: ·) = some ys := h
      cases e : strsD ds with
      | none => rw [e] at h; cases h
      | some zs =>
        rw [e] at h
        cases h
        cases r with
        | cons a b => cases a; rw [ih b e]; rfl
    | _ => cases h
section
variable {X : Cx} {E : L2.St → XK} {da db : DE}
def dJoin (a : Str) (db : DE) : DE := fun sl M ED Q => db sl M ED fun y M2 => vw M2 y fun w => ∃ ds ys, w = .lst ds ∧ strsD ds = some ys ∧ (ys.map (·.length)).sum + ys.length * a.length ≤ 16777216 ∧ Q (.str (Txt.join a ys)) M2
theorem de_join {a : Str} {o e : Expr} {apos pos : Pos} (ho : DEx X E o (dC (.str a))) (he : DEx X E e db) (hs : starEach [e] X.env = [(false, eval e X.env)] := by rfl) (hbase : attributeBase o "join" X.env (eval o X.env) = eval o X.env := by rfl) (hline : (apos.endLine == pos.line) = true := by rfl) :
    DEx X E (.Call (.Attribute o "join" apos) [e] [] pos) (dJoin a db) := by
  obtain ⟨ta, p1, s1⟩ := ho
  obtain ⟨tb, p2, s2⟩ := he
  refine ⟨_, pe_join p1 p2 hs hbase hline, fun S0 sl M σ H Q QD ED k xl hd l => ?_⟩
  refine s1 S0 sl M σ H _ (fun d M1 => d = .str a ∧ M1 = M) ED k xl ⟨rfl, rfl⟩ fun d1 M1 x H1 m1 x1 r1 q1 => ?_
  obtain ⟨rfl, rfl⟩ := q1
  cases r1
  refine ⟨⟨a, rfl⟩, s2 S0 sl M1 σ H1 _ _ ED (k.ext m1 x1) (xl.ext x1) hd fun d2 M2 y H2 m2 x2 r2 q2 => ?_⟩
  obtain ⟨w, ⟨ds, ys, rfl, es, hz, q⟩, rw0⟩ := vw_of m2 r2 q2
  obtain ⟨p, vs, rfl, h1, rk⟩ := rw0.lst_inv
  have := reps_strs rk es
  subst this
  exact ⟨a, p, ys, rfl, rfl, .inl (.inl (.inl h1)), hz, l _ M2 _ H2 m2 (x1.trans x2) (.str _) q⟩
end
end OD

/-! F20: texts joined. -/
namespace F
open PySem PySem.Spec L2 OD
@[simp] theorem strsD_nil : strsD [] = some [] := rfl
@[simp] theorem strsD_cons (x : Str) (r : List D) : strsD (.str x :: r) = (strsD r).map (x :: ·) := rfl
@[simp] noncomputable def fJoin (a : Str) (b : FO) (s : Sl) : R Sv := (b s).bind fun g s => match g s with
  | some (.lst ds) => (match strsD ds with
    | some ys => optI (cif ((ys.map (·.length)).sum + ys.length * a.length ≤ 16777216) (some (.str (Txt.join a ys))) none) s
    | none => .bad)
  | _ => .bad
theorem s_join {a : Str} {ob : FO} {db : DE} (hb : SimO ob db) : SimE (fJoin a ob) (dJoin a db) := by
  intro c fs sl M ED Q r q
  refine hb c fs sl M ED _ r (poO_cases q fun g fs1 e q x M1 r1 l1 => ?_)
  split at q
  · rename_i ds g0
    refine l1 fs1 M1 _ _ r1 g0 ?_
    split at q
    · rename_i ys es
      by_cases hp : (ys.map (·.length)).sum + ys.length * a.length ≤ 16777216
      · rw [cif_pos hp] at q
        exact ⟨ds, ys, rfl, es, hp, q _ M1 (r1.imI _)⟩
      · rw [cif_neg hp] at q; exact q.elim
    · exact q.elim
  · exact q.elim
end F

/-! OD23: a text so many times. -/
namespace OD
open PySem PySem.Spec L2
section
variable {X : Cx} {K : PySem.W.Frag}
def rMulS : R2 := fun x y H Q => ∃ (z : Str) (n : Int), x = .str z ∧ y = .int n ∧ (2 ≤ n ∧ n ≤ 1000) ∧ (1 ≤ z.length ∧ z.length ≤ 1000) ∧ Q (.str (Txt.mul z n)) H
theorem op_mulS : OpR X (binaryOp .Mult) rMulS := by
  intro pins s σ H x y v u Q I rx ry h
  obtain ⟨z, n, rfl, rfl, ⟨h1, h2⟩, ⟨h3, h4⟩, q⟩ := h
  obtain ⟨t, rfl⟩ := rx
  obtain ⟨t', rfl⟩ := ry
  refine SB.mul ⟨?_, fun _ _ => ?_, fun _ _ => ?_⟩ fun t' k => ⟨.str (Txt.mul z n), H, I.tok _, ⟨_, rfl⟩, q⟩
  · rw [decide_eq_false (by omega), decide_eq_false (by omega)]; rfl
  · have : (1000 : Int) ≤ (2 ^ 63 - 1) / n := by
      refine Int.le_ediv_of_mul_le (by omega) ?_
      omega
    omega
  · unfold Builtin.Str.tooLong
    refine decide_eq_false (fun hh => ?_)
    obtain ⟨m, rfl⟩ := Int.eq_ofNat_of_zero_le (show 0 ≤ n by omega)
    have hm : m ≤ 1000 := by omega
    have : z.length * m ≤ 1000 * 1000 := Nat.mul_le_mul h4 hm
    have e : (Int.ofNat m).toNat = m := rfl
    have hs : (sizeLine : Nat) = 16777216 := rfl
    rw [hs] at hh
    have hh' : 16777216 < z.length * m := hh
    omega
def mulSD (x y : D) (M : Mem) (Q : DK) : Prop := ∃ (z : Str) (n : Int), x = .str z ∧ y = .int n ∧ (2 ≤ n ∧ n ≤ 1000) ∧ (1 ≤ z.length ∧ z.length ≤ 1000) ∧ Q (.str (Txt.mul z n)) M
theorem sv_mulS : SimV2 K rMulS mulSD := by
  intro S0 M H x y dx dy Q QD m rx ry h l
  obtain ⟨z, n, rfl, rfl, h1, h2, q⟩ := h
  cases rx.str_inv
  cases ry.int_inv
  exact ⟨z, n, rfl, rfl, h1, h2, l.now m (.str _) q⟩
end
end OD

/-! F21: a text so many times. -/
namespace F
open PySem PySem.Spec L2 OD
@[simp] noncomputable def mulSF : D → D → Option D
  | .str z, .int n => cif ((2 ≤ n ∧ n ≤ 1000) ∧ (1 ≤ z.length ∧ z.length ≤ 1000)) (some (.str (Txt.mul z n))) none
  | _, _ => none
theorem mulSF_ok : OpF mulSD mulSF := by
  intro x y z M Q h q
  cases x <;> cases y <;> first
    | (cases h; done)
    | (obtain ⟨hz, rfl⟩ := cif_inv h; exact ⟨_, _, rfl, rfl, hz.1, hz.2, q⟩)
end F

/-! OD24: raise C(), try .. except C: .., defs that raise. -/
namespace OD
open PySem PySem.Spec L2
abbrev W0 (E : L2.St → XK) : WX := fun cls d σ H => E σ cls d H
section
variable {X : Cx} {E : L2.St → XK} {K : PySem.W.Frag}
theorem takes00 {X : Cx} : Takes X (W0 fun _ => E0) := takes0
/-- C(), C a class of the program without own __init__ -/
theorem pmk_own0 {C : Addr} {bmB : List Value} {B newId initId : String} {x : Str} {p pos : Pos} (F : ExcBaseFacts B newId initId bmB) (q : PySem.W.excIn X.K C bmB newId = true) (gC : X.mg x = some (.ref C)) (kC : PySem.W.keepIn X.K (.ref C) = true) (r : Raises X (.ref C)) (hg : Gl X x)
    (hdb : (x == ("__debug__" : Str)) = false := by decide) : PMk X (.Call (.Name x p) [] [] pos) (fun _ H Q => Q (.ref C) none H) := by
  intro pins s σ H Q I h
  refine wpAny_Call_Name_kw (ld_glob I hg gC ?_ hdb)
  refine PySem.W.callWith_K0 I.kIn kC ?_
  show wpAny _ _ (call (.ref C) []) _ _ _
  obtain ⟨bm, N, nm, qn, bs, hdct, sn, sub, ab, col, dd, k0, k1, k2, k3, k5, mN, hC, hN, hni, T⟩ := exc_obj I.kIn q
  refine wpAny_call_exc_subT F T hC hN hni (fun h' e hm => ?_) (Nat.zero_le _)
  exact mk_of I hm r h (I.hok.gone hm.new)
/-- what the top has written of an own class of errors without own __init__, over ValueError -/
structure XC0 (K : PySem.W.Frag) (mg : Str → Option Value) (x : Str) (C : Addr) : Prop where
  gC : mg x = some (.ref C)
  ex : PySem.W.excIn K C HandSPX.veTail "ValueError.__new__" = true
  kC : PySem.W.keepIn K (.ref C) = true
  sb : PySem.W.subIn K (.ref C) (.type "BaseException") = some true
  ty : PySem.W.typeIn K (.ref C) = some (.type "type")
def dRaise (C : Addr) : DS := fun Dd sl M => Dd.ex sl (.ref C) none M
theorem ds_raise0 {C : Addr} {x : Str} {p pos pos' : Pos} (hc : X.calm = true) (tk : Takes X (W0 E)) (xc : XC0 X.K X.mg x C) (hg : Gl X x := by rfl) (hdb : (x == ("__debug__" : Str)) = false := by decide) :
    DSx X E (.Raise (some (.Call (.Name x p) [] [] pos)) none pos') (dRaise C) :=
  ⟨_, ps_raise hc tk (pmk_own0 PySem.F.excBase_ValueError xc.ex xc.gC xc.kC (raises_own xc.sb xc.ty) hg hdb), fun S0 sl M σ H Dd Dn k l h => l.ex sl M σ H k (.refl _ _) (.ref C) none M none H k.mem (.refl _ _) trivial h⟩
/-- try: body / except C: suite; cm: which classes of errors C takes -/
def dTry (cm : Value → Option Bool) (td ud : DS) : DS := fun Dd sl M => td { Dd with ex := fun sl' cls fs M' => ∃ b, cm cls = some b ∧ (b = true → ud { Dd with ex := fun _ _ _ _ => False } sl' M') ∧ (b = false → Dd.ex sl' cls fs M') } sl M
theorem ds_try {x : Str} {c : Value} {body suite : List Stmt} {b₀ : Stmt} {np pos pos' : Pos} {cm : Value → Option Bool} {td ud : DS} (tk : Takes X (W0 E)) (hc : Names X x c) (hcm : ∀ cls b, cm cls = some b → PySem.W.exmOne X.K cls c = some b)
    (hb : ∀ (E' : L2.St → XK) (pn : List (Addr × Obj)) (xe : Value → Shared → Prop), Takes (X.tr pn xe) (W0 E') → PassesOwn (model X.prog X.w) X.A X.env xe → DBx (X.tr pn xe) E' body td)
    (hsu : ∀ (a : Addr) (oe : Obj) (pn : List (Addr × Obj)), (∃ vs, oe.data = .fields vs) → DBx (X.suite a ((a, oe) :: pn)) (fun _ => E0) (b₀ :: suite) ud)
    (hs : X.stack = X.env :: X.outer := by rfl) (hf : X.env.frame = some X.env.locals := by rfl) :
    DSx X E (.Try body [.ExceptHandler (some (.Name x np)) none (b₀ :: suite) pos'] [] [] pos) (dTry cm td ud) := by
  let ts : Addr → Value → Option Addr → TS := fun a cls d D σ H => ∀ oe pn hz, (hsu a oe pn hz).ex.choose D σ H
  let tb : WX → TS := fun W D σ H => ∀ pn xe (tk' : Takes (X.tr pn xe) W) (pw : PassesOwn (model X.prog X.w) X.A X.env xe), (hb (fun σ cls d H => W cls d σ H) pn xe tk' pw).ex.choose D σ H
  refine ⟨_, ps_try_only (tb := tb) (ts := ts) hs hf hc tk (fun W pn xe tk' pw => ?_) (fun a oe cls d pn hz hv => ?_), fun S0 sl M σ H Dd Dn k l h => ?_⟩
  · have sp := (hb (fun σ cls d H => W cls d σ H) pn xe tk' pw).ex.choose_spec.1
    exact ⟨fun pins s σ H D I h => sp.run pins s σ H D I (h pn xe tk' pw)⟩
  · have sp := (hsu a oe pn hv).ex.choose_spec.1
    exact ⟨fun pins s σ H D I h => sp.run pins s σ H D I (h oe pn hv)⟩
  · intro pn xe tk' pw
    refine (hb _ pn xe tk' pw).ex.choose_spec.2 S0 sl M σ H { Dd with ex := fun sl' cls fs M' => ∃ b, cm cls = some b ∧ (b = true → ud { Dd with ex := fun _ _ _ _ => False } sl' M') ∧ (b = false → Dd.ex sl' cls fs M') } Dn k ⟨l.nx, l.rt, l.bk, l.ct, fun sl' M' σ' H' k' x' => ?_⟩ h
    intro cls fs M2 dd H2 m2 x2 r2 hh
    obtain ⟨b, e1, e2, e3⟩ := hh
    refine ⟨b, hcm _ _ e1, fun hb' a ha oe pn hv => ?_, fun hb' => l.ex sl' M' σ' H' k' x' cls fs M2 dd H2 m2 x2 r2 (e3 hb')⟩
    have k2 := k'.ext m2 x2
    have x12 := x'.trans x2
    refine (hsu a oe pn hv).ex.choose_spec.2 S0 sl' M2 σ' H2 { Dd with ex := fun _ _ _ _ => False } Dn k2 ⟨fun a b c d k y => l.nx a b c d k (x12.trans y), l.rt.ext x12, fun a b c d k y => l.bk a b c d k (x12.trans y), fun a b c d k y => l.ct a b c d k (x12.trans y), fun _ _ _ _ _ _ => XL.no⟩ (e2 hb')
/-- a def of the top that may raise -/
structure DefOkX (P : Program) (w : World) (K : PySem.W.Frag) (mg : Str → Option Value) (base : Heap) (k : Nat) (x : Str) (ps : List Str) (F : FD) : Prop where
  ex : ∃ (f : Addr) (fd : FuncData), mg x = some (.ref f) ∧ PySem.W.keepIn K (.ref f) = true ∧ Binds K fd ps [] ∧ FnOk P w K mg base (L2.CX P w) k f fd ps (spD K F)
def dCallX (F : FD) (dr : DA) : DE := fun sl M ED Q => dr sl M ED fun ds M1 => ∃ ks : List Nat, ks.Nodup ∧ (sel ks M1).length = ks.length ∧ F ds (sel ks M1) (fun c fs Mc => (keys (putM ks M1 Mc)).Nodup → ED c fs (putM ks M1 Mc)) fun d Mc => (keys (putM ks M1 Mc)).Nodup → Q d (putM ks M1 Mc)
theorem sim_callX {F : FD} {dr : DA} {t : TA} (s : SimA K E t dr) : SimE K E (tCallS (spD K F) E t) (dCallX F dr) := by
  intro S0 sl M σ H Q QD ED k xl hd l
  refine s S0 sl M σ H _ _ ED k xl hd fun ds M1 vs H1 m1 x1 r1 q1 => ?_
  obtain ⟨ks, hk, hl, q⟩ := q1
  refine ⟨mk0 S0 ks M1, ds, sel ks M1, _, _, m1.sel hk, by rw [mk0_sm]; exact r1, q, fun d M' v H' m' x' pr r' q' => ?_, fun cls fs M' dd H' m' x' pr r' q' => ?_⟩
  · obtain ⟨g1, g2, g3⟩ := put_back m1 hk hl m' x' pr
    exact l d _ v H' g1 (x1.trans g2) (by rw [g3]; exact r') (q' g1.nd)
  · obtain ⟨g1, g2, g3⟩ := put_back m1 hk hl m' x' pr
    exact xl cls fs _ dd H' g1 (x1.trans g2) (by rw [g3]; exact r') (q' g1.nd)
theorem de_callX {a : Expr} {es : List Expr} {pos p : Pos} {dr : DA} {F : FD} {x : Str} {ps : List Str} {k : Nat} (tk : Takes X (W0 E)) (c : DefOkX X.prog X.w X.K X.mg X.base k x ps F) (hr : Room k X.A) (ha : DAx X E (a :: es) dr) (hg : Gl X x := by rfl) (hdb : (x == ("__debug__" : Str)) = false := by decide)
    (he : starEach (a :: es) X.env = (false, eval a X.env) :: starEach es X.env := by rfl) (hpl : (backTo pos (starEach es X.env)).any (·.1) = false := by rfl) : DEx X E (.Call (.Name x p) (a :: es) [] pos) (dCallX F dr) := by
  obtain ⟨f, fd, m, kp, b, G⟩ := c
  obtain ⟨t, pa, s⟩ := ha
  exact ⟨_, pe_callS G hr hg m kp b (fun σ => passAt (W := W0 E) tk σ) pa hdb he hpl, sim_callX s⟩
end
section
variable {P : Program} {w : World} {K : PySem.W.Frag} {mg : Str → Option Value} {base : Heap} {x qual : Str} {st : Stmt} {f : Addr} {fd : FuncData} {N ps : List Str} {k : Nat} {F : FD} {td : DS}
def outsX (M : Mem) (ED : XD) (QD : DK) : DEnds := { nx := fun _ M' => Out M QD .non M', rt := Out M QD, ex := fun _ c f M' => ∃ M'', M''.Sublist M' ∧ Pre M M'' ∧ ED c f M'' }
theorem XRep.sub {S0 : Mark} {M M' : Mem} {H : Hp} {dd : Option Addr} {fs : Option (List (Str × D))} (r : XRep K (SM S0 M') H dd fs) (h : M.Sublist M') : XRep K (SM S0 M) H dd fs := by
  cases dd with
  | none => cases fs <;> exact r
  | some a =>
    cases fs with
    | none => exact r
    | some fs =>
      obtain ⟨ws, e, q⟩ := r
      exact ⟨ws, e, RepsF.mono (fun b o eb n => ⟨eb, fun z => n (z.elim .inl fun z => .inr (sub_keys2 h b z))⟩) _ _ q⟩
/-- THE RULE for a def that may raise -/
theorem fn_dX (Fn : Fun K x qual st f fd) (S : FnScope N ps (defScope st)) (hlen : ∀ ds M ED QD, F ds M ED QD → ds.length = ps.length)
    (hder : ∀ (cdv : Value) (A : Around) (outer : List Env) (s : Shared) (H : Hp) (E : XK), Room k (A.deeper (PyProof.Rows.envOfC qual (defScope st) s.heap.objs.size f cdv)) →
      Takes (cxOf (L2.CX P w) P w K mg base N qual (defScope st) f cdv A outer s H E) (W0 fun _ => E) →
      PassesOwn (model P w) (cxOf (L2.CX P w) P w K mg base N qual (defScope st) f cdv A outer s H E).A (cxOf (L2.CX P w) P w K mg base N qual (defScope st) f cdv A outer s H E).env (cxOf (L2.CX P w) P w K mg base N qual (defScope st) f cdv A outer s H E).xe →
      DBx (cxOf (L2.CX P w) P w K mg base N qual (defScope st) f cdv A outer s H E) (fun _ => E) (defBody st) td)
    (hrd : ∀ ds M ED QD, F ds M ED QD → td (outsX M ED QD) (startD N ds) M) : FnOk P w K mg base (L2.CX P w) (k + 1) f fd ps (spD K F) := by
  refine Fn.okX S (fun vs H Q E h => ?_) (fun cdv A outer s H vs Q E hr h => ?_)
  · obtain ⟨S0, ds, M, QD, ED, m, r, h, _⟩ := h
    rw [r.length]
    exact hlen _ _ _ _ h
  · obtain ⟨S0, ds, M, QD, ED, m, r, h, lq, lx⟩ := h
    obtain ⟨t, p, s'⟩ := (hder cdv A outer s H E hr (takes_of rfl rfl rfl rfl) (passes_of rfl)).ex
    refine ⟨t, p, s' S0 (startD N ds) M (L2.start N vs) H (outsX M ED QD) _ (start_ok m r) ⟨fun sl' M' σ' H' k' x' h' => ?_, fun d M' v H' m' x' r' h' => ?_, fun _ _ _ _ _ _ z => z.elim, fun _ _ _ _ _ _ z => z.elim, fun sl' M' σ' H' k' x' cls fs M2 dd H2 m2 x2 r2 h2 => ?_⟩ (hrd ds M ED QD h)⟩
    · obtain ⟨M2, sb, pr, q⟩ := h'
      exact lq .non M2 .non H' (k'.mem.sub sb) (x'.sub sb) pr .non q
    · obtain ⟨M2, sb, pr, q⟩ := h'
      exact lq d M2 v H' (m'.sub sb) (x'.sub sb) pr (r'.sub sb) q
    · obtain ⟨M3, sb, pr, q⟩ := h2
      exact lx cls fs M3 dd H2 (m2.sub sb) ((x'.trans x2).sub sb) pr (r2.sub sb) q
end
end OD
namespace OD
/-- what an except clause of an own class takes -/
theorem exm_of {K : PySem.W.Frag} {R C : PySem.Addr} {b : Bool} (h1 : PySem.W.subIn K (.ref C) (.type "BaseException") = some true) (h2 : PySem.W.isClsIn K C = true) (h3 : PySem.W.typeIn K (.ref C) = some (.type "type")) (h4 : PySem.W.subIn K (.ref R) (.ref C) = some b) :
    PySem.W.exmOne K (.ref R) (.ref C) = some b := by
  have e1 : (PySem.W.subIn K (.ref C) (.type "BaseException") == some true) = true := by rw [h1] <;> rfl
  have e2 : ((PySem.W.clsIn K C).isSome && PySem.W.typeIn K (.ref C) == some (.type "type")) = true := by
    have h2' : (PySem.W.clsIn K C).isSome = true := h2
    rw [h2', h3] <;> rfl
  show (if (PySem.W.subIn K (.ref C) (.type "BaseException") == some true) = true then (if ((PySem.W.clsIn K C).isSome && PySem.W.typeIn K (.ref C) == some (.type "type")) = true then PySem.W.subIn K (.ref R) (.ref C) else none) else none) = some b
  rw [if_pos e1, if_pos e2]
  exact h4
end OD

/-! F22: raise C(), try .. except C: .., defs that raise, as functions. -/
namespace F
open PySem PySem.Spec L2 OD
def fdX (np : Nat) (ff : FF) : FD := fun ds M ED Q => (keys M).Nodup ∧ fdF true np ff ds M ED Q
theorem fdX_len {np : Nat} {ff : FF} : ∀ ds M ED QD, fdX np ff ds M ED QD → ds.length = np := fun ds M ED QD h => fdF_len ds M ED QD h.2
def rsRX (s : Sl) (xs : List AD) (r : Rs) : R Sv := match r with
  | .ok w outs => .ok w (back s xs outs s)
  | .ex c f outs => .ex c f (back s xs outs s)
  | .bad => .bad
def callX (np : Nat) (ff : FF) (xs : List AD) (s : Sl) : R Sv := match argSv s xs with
  | some args => if args.length = np ∧ (ownJ s xs).Nodup then rsRX s xs (ff args) else .bad
  | none => .bad
@[simp] def fCallX (np : Nat) (ff : FF) (r : FR) (s : Sl) : R Sv := (r s).bind fun xs s => callX np ff xs s
@[simp] theorem rsRX_ok (s : Sl) (xs : List AD) (w : Sv) (outs : List Sv) : rsRX s xs (.ok w outs) = .ok w (back s xs outs s) := rfl
@[simp] theorem rsRX_ex (s : Sl) (xs : List AD) (c f) (outs : List Sv) : rsRX s xs (.ex c f outs) = .ex c f (back s xs outs s) := rfl
@[simp] theorem callX_def (n : Nat) (ff : FF) (xs : List AD) (s : Sl) : callX n ff xs s = (match argSv s xs with | some args => if args.length = n ∧ (ownJ s xs).Nodup then rsRX s xs (ff args) else .bad | none => .bad) := rfl
@[simp] theorem rsOf_ex (args : List Sv) (c f) (s : Sl) : rsOf args (.ex c f s) = (match outOf args s with | some os => .ex c f os | none => .bad) := rfl
section
variable {dr : DA} {np : Nat} {s1 s2 : FS} {t1 t2 : DS}
theorem s_callX {n : Nat} {ff : FF} {fr : FR} (hr : SimR fr dr) : SimE (fCallX n ff fr) (dCallX (fdX n ff) dr) := by
  intro c fs sl M ED Q r q
  refine hr c fs sl M ED _ r ?_
  unfold fCallX at q
  cases e : fr fs with
  | ok xs fs1 =>
    rw [e, ok_bind] at q
    intro ds M1 r1 ha
    obtain ⟨E, r1⟩ := r1
    unfold callX at q
    cases eg : argSv fs1 xs with
    | none => rw [eg] at q; exact q.elim
    | some args =>
      rw [eg] at q
      dsimp only at q
      by_cases hh : args.length = n ∧ (ownJ fs1 xs).Nodup
      · rw [if_pos hh] at q
        have en := args_ents r1 ha eg
        obtain ⟨ks, hks⟩ := at_of (es_sub r1 eg)
        refine ⟨ks, hks.nd (nd_es r1 eg hh.2), by rw [hks.sel, hks.len], ?_⟩
        rw [hks.sel]
        refine ⟨nd_es r1 eg hh.2, args, _, hh.1, en, rfl, ?_⟩
        cases ef : ff args with
        | ok w outs =>
          rw [ef] at q
          intro d Ew Es' g1 g2 g3 g4
          exact q d _ (call_ok r1 ha eg hh.2 hks g1 g2 g3 g4)
        | ex cl f outs =>
          rw [ef] at q
          refine ⟨rfl, fun Es' g1 g2 g4 => ?_⟩
          have g4' : (keys (putM ks M1 (Es'.flatten ++ []))).Nodup := by rw [List.append_nil]; exact g4
          have := call_ok (w := .im .non) (d := .non) (Ew := []) r1 ha eg hh.2 hks g1 g2 ⟨rfl, rfl⟩ g4'
          rw [List.append_nil] at this
          exact q _ this.rel
        | bad => rw [ef] at q; exact q.elim
      · rw [if_neg hh] at q; exact q.elim
  | ex cl f' fs' => rw [e] at q; exact q
  | bad => rw [e] at q; exact q.elim
@[simp] def fRaise (C : Addr) (s : Sl) : O := .ex (.ref C) none s
theorem s_raise {C : Addr} : SimS np (fRaise C) (dRaise C) := fun c hc Dd fs sl M r q => q sl M r
/-- no error leaves the suite -/
def noX : O → O
  | .ex _ _ _ => .bad
  | o => o
@[simp] theorem noX_nx (s) : noX (.nx s) = .nx s := rfl
@[simp] theorem noX_rt (w s) : noX (.rt w s) = .rt w s := rfl
@[simp] theorem noX_bk (s) : noX (.bk s) = .bk s := rfl
@[simp] theorem noX_ct (s) : noX (.ct s) = .ct s := rfl
def tryO (cm : Value → Option Bool) (b : FS) : O → O
  | .ex c f s => (match cm c with
    | some true => noX (b s)
    | some false => .ex c f s
    | none => .bad)
  | o => o
@[simp] theorem tryO_nx (cm b s) : tryO cm b (.nx s) = .nx s := rfl
@[simp] theorem tryO_rt (cm b w s) : tryO cm b (.rt w s) = .rt w s := rfl
@[simp] theorem tryO_bk (cm b s) : tryO cm b (.bk s) = .bk s := rfl
@[simp] theorem tryO_ct (cm b s) : tryO cm b (.ct s) = .ct s := rfl
@[simp] theorem tryO_ex (cm b c f s) : tryO cm b (.ex c f s) = (match cm c with | some true => noX (b s) | some false => .ex c f s | none => .bad) := rfl
@[simp] def fTry (cm : Value → Option Bool) (a b : FS) (s : Sl) : O := tryO cm b (a s)
theorem s_try {cm : Value → Option Bool} (h1 : SimS np s1 t1) (h2 : SimS np s2 t2) : SimS np (fTry cm s1 s2) (dTry cm t1 t2) := by
  intro c hc Dd fs sl M r q
  refine h1 c hc _ fs sl M r ?_
  unfold fTry at q
  cases e : s1 fs with
  | ex cl f fs1 =>
    rw [e] at q
    intro sl' M' r'
    unfold tryO at q
    dsimp only at q
    cases hm : cm cl with
    | none => rw [hm] at q; exact q.elim
    | some b =>
      rw [hm] at q
      refine ⟨b, hm, fun hb => ?_, fun hb => ?_⟩
      · subst hb
        refine h2 c hc _ fs1 sl' M' r' ?_
        dsimp only at q
        cases e2 : s2 fs1 with
        | ex _ _ _ => rw [e2] at q; exact q.elim
        | bad => rw [e2] at q; exact q.elim
        | nx _ => rw [e2] at q; exact q
        | rt _ _ => rw [e2] at q; exact q
        | bk _ => rw [e2] at q; exact q
        | ct _ => rw [e2] at q; exact q
      · subst hb
        exact q sl' M' r'
  | bad => rw [e] at q; exact q.elim
  | nx _ => rw [e] at q; exact q
  | rt _ _ => rw [e] at q; exact q
  | bk _ => rw [e] at q; exact q
  | ct _ => rw [e] at q; exact q
end
/-- a def of the top that may raise, as its function -/
theorem DefOkX.fn {P : Program} {w : World} {K : PySem.W.Frag} {mg : Str → Option Value} {base : Heap} {x y : Str} {st : Stmt} {f : Addr} {fd : FuncData} {N ps : List Str} {k np nl : Nat} {body : FS} {td : DS}
    (Fn : Fun K x x st f fd) (m : mg y = some (.ref f)) (b : Binds K fd ps []) (S : FnScope N ps (defScope st)) (hp : ps.length = np) (hn : N.length = np + nl)
    (hder : ∀ (cdv : Value) (A : Around) (outer : List Env) (s : Shared) (H : Hp) (E : XK), Room k (A.deeper (PyProof.Rows.envOfC x (defScope st) s.heap.objs.size f cdv)) →
      Takes (cxOf (L2.CX P w) P w K mg base N x (defScope st) f cdv A outer s H E) (W0 fun _ => E) →
      PassesOwn (model P w) (cxOf (L2.CX P w) P w K mg base N x (defScope st) f cdv A outer s H E).A (cxOf (L2.CX P w) P w K mg base N x (defScope st) f cdv A outer s H E).env (cxOf (L2.CX P w) P w K mg base N x (defScope st) f cdv A outer s H E).xe →
      DBx (cxOf (L2.CX P w) P w K mg base N x (defScope st) f cdv A outer s H E) (fun _ => E) (defBody st) td) (hs : SimS np body td) : DefOkX P w K mg base (k + 1) y ps (fdX np (fDef np nl body)) :=
  ⟨f, fd, m, Fn.kp, b, fn_dX Fn S (by rw [hp]; exact fdX_len) hder fun ds M ED QD h => run_ok (x := true) hn hs h.1 h.2 rfl rfl (fun _ => rfl)⟩
end F

/-! OD26: try .. except C as e: .. isinstance(e, D); isinstance of own objects against built-in types. -/
namespace OD
open PySem PySem.Spec L2
section
variable {X : Cx} {E : L2.St → XK} {K : PySem.W.Frag}
theorem Ok.gone {S0 : Mark} {sl : Slots} {M : Mem} {σ : L2.St} {H : Hp} (k : Ok K S0 sl M σ H) (i : Nat) : Ok K S0 (sl.set i none) M (σ.set i none) H := by
  refine ⟨by rw [List.length_set, List.length_set, k.len], fun j d e => ?_, k.mem⟩
  by_cases h : i = j
  · subst h
    by_cases hl : i < sl.length
    · rw [List.getElem?_set_self hl] at e; cases e
    · rw [List.getElem?_eq_none (by rw [List.length_set]; omega)] at e; cases e
  · rw [List.getElem?_set_ne h] at e
    obtain ⟨v, e2, r⟩ := k.sl j d e
    exact ⟨v, by rw [List.getElem?_set_ne h]; exact e2, r⟩
/-- try: body / except C as e: suite -/
def dTryAs (cm : Value → Option Bool) (i : Nat) (td : DS) (ud : Addr → Value → Option (List (Str × D)) → DS) : DS := fun Dd sl M => td { Dd with ex := fun sl' cls fs M' => ∃ b, cm cls = some b ∧ (b = true → ∀ a, ud a cls fs { nx := fun sl M => Dd.nx (sl.set i none) M, rt := Dd.rt, bk := fun sl M => Dd.bk (sl.set i none) M, ct := fun sl M => Dd.ct (sl.set i none) M, ex := fun _ _ _ _ => False } (sl'.set i (some (.ref a))) M') ∧ (b = false → Dd.ex sl' cls fs M') } sl M
theorem xrep_none {S : Mark} {H : Hp} {dd : Option Addr} {fs : Option (List (Str × D))} (h : XRep K S H dd fs) (e : fs = none) : dd = none := by
  subst e
  cases dd with
  | none => rfl
  | some a => exact h.elim
theorem ds_tryAs {x n : Str} {c : Value} {i : Nat} {body suite : List Stmt} {b₀ : Stmt} {np pos pos' : Pos} {cm : Value → Option Bool} {td : DS} {ud : Addr → Value → Option (List (Str × D)) → DS} (tk : Takes X (W0 E)) (hN : X.N.Nodup) (hc : Names X x c) (hcm : ∀ cls b, cm cls = some b → PySem.W.exmOne X.K cls c = some b)
    (hb : ∀ (E' : L2.St → XK) (pn : List (Addr × Obj)) (xe : Value → Shared → Prop), Takes (X.tr pn xe) (W0 E') → PassesOwn (model X.prog X.w) X.A X.env xe → DBx (X.tr pn xe) E' body td)
    (hsu : ∀ (a : Addr) (oe : Obj) (pn : List (Addr × Obj)) (cls : Value) (dd : Option Addr) (fs : Option (List (Str × D))), Zc cls dd oe → (∃ vs, oe.data = .fields vs) → (fs = none → dd = none) → DBx (X.suite a ((a, oe) :: pn)) (fun _ => E0) (b₀ :: suite) (ud a cls fs))
    (hi : X.N[i]? = some n := by rfl) (hln : X.env.kindOf n = some .local := by rfl) (hs : X.stack = X.env :: X.outer := by rfl) (hf : X.env.frame = some X.env.locals := by rfl) :
    DSx X E (.Try body [.ExceptHandler (some (.Name x np)) (some n) (b₀ :: suite) pos'] [] [] pos) (dTryAs cm i td ud) := by
  let ts : Addr → Value → Option Addr → TS := fun a cls d D1 σ H => ∃ fs : Option (List (Str × D)), (fs = none → d = none) ∧ ∀ oe pn hz hv hx, (hsu a oe pn cls d fs hz hv hx).ex.choose D1 σ H
  let tb : WX → TS := fun W D σ H => ∀ pn xe (tk' : Takes (X.tr pn xe) W) (pw : PassesOwn (model X.prog X.w) X.A X.env xe), (hb (fun σ cls d H => W cls d σ H) pn xe tk' pw).ex.choose D σ H
  refine ⟨_, ps_try_as (tb := tb) (ts := ts) hs hf hN hi hln hc tk (fun W pn xe tk' pw => ?_) (fun a oe cls d pn hz hv => ?_), fun S0 sl M σ H Dd Dn k l h => ?_⟩
  · have sp := (hb (fun σ cls d H => W cls d σ H) pn xe tk' pw).ex.choose_spec.1
    exact ⟨fun pins s σ H D I h => sp.run pins s σ H D I (h pn xe tk' pw)⟩
  · refine ⟨fun pins s σ H D I h => ?_⟩
    obtain ⟨fs, hx, h⟩ := h
    exact (hsu a oe pn cls d fs hz hv hx).ex.choose_spec.1.run pins s σ H D I (h oe pn hz hv hx)
  · intro pn xe tk' pw
    refine (hb _ pn xe tk' pw).ex.choose_spec.2 S0 sl M σ H { Dd with ex := fun sl' cls fs M' => ∃ b, cm cls = some b ∧ (b = true → ∀ a, ud a cls fs { nx := fun sl M => Dd.nx (sl.set i none) M, rt := Dd.rt, bk := fun sl M => Dd.bk (sl.set i none) M, ct := fun sl M => Dd.ct (sl.set i none) M, ex := fun _ _ _ _ => False } (sl'.set i (some (.ref a))) M') ∧ (b = false → Dd.ex sl' cls fs M') } Dn k ⟨l.nx, l.rt, l.bk, l.ct, fun sl' M' σ' H' k' x' => ?_⟩ h
    intro cls fs M2 dd H2 m2 x2 r2 hh
    obtain ⟨b, e1, e2, e3⟩ := hh
    refine ⟨b, hcm _ _ e1, fun hb' a ha => ⟨fs, xrep_none r2, fun oe pn hz hv hx => ?_⟩, fun hb' => l.ex sl' M' σ' H' k' x' cls fs M2 dd H2 m2 x2 r2 (e3 hb')⟩
    have k2 := (k'.ext m2 x2).set i (v := .ref a) (d := .ref a) (.ref a)
    have x12 := x'.trans x2
    refine (hsu a oe pn cls dd fs hz hv hx).ex.choose_spec.2 S0 _ M2 _ H2 { nx := fun sl M => Dd.nx (sl.set i none) M, rt := Dd.rt, bk := fun sl M => Dd.bk (sl.set i none) M, ct := fun sl M => Dd.ct (sl.set i none) M, ex := fun _ _ _ _ => False } _ k2 ⟨fun a b c d k y q => l.nx _ b _ d (Ok.gone (K := X.K) k i) (x12.trans y) q, l.rt.ext x12, fun a b c d k y q => l.bk _ b _ d (Ok.gone (K := X.K) k i) (x12.trans y) q, fun a b c d k y q => l.ct _ b _ d (Ok.gone (K := X.K) k i) (x12.trans y) q, fun _ _ _ _ _ _ => XL.no⟩ (e2 hb' a)
/-- isinstance(e, T), e the error that the suite holds; ce: the classes that are known -/
def dIsE (fs : Option (List (Str × D))) (ce : Value → Bool) (ie : Value → D → Option Bool) (cls : Value) (a : Addr) (dr : DA) : DE := fun sl M ED Q => fs = none ∧ ce cls = true ∧ dr sl M ED fun ds M1 => ∃ e b, ds = [.ref a, e] ∧ ie cls e = some b ∧ Q (.bl b) M1
/-- what the top tells of classes of errors -/
structure IeOk (K : PySem.W.Frag) (ce : Value → Bool) (ie : Value → D → Option Bool) : Prop where
  cl : ∀ cls, ce cls = true → ∃ D, cls = .ref D ∧ ExcC K D
  ok : ∀ D e b, ie (.ref D) e = some b → (∃ T, e = .cls T ∧ PySem.W.kitOne K (.ref D) (.ref T) = some b) ∨ ∃ n, e = .ty n ∧ PySem.W.kitOne K (.ref D) (.type n) = some b
theorem pe_never {X : Cx} {e : Expr} : PE X e (fun _ _ _ => False) := ⟨fun _ _ _ _ _ _ h => h.elim⟩
theorem de_isE {a : Addr} {oe : Obj} {pn : List (Addr × Obj)} {cls : Value} {dd : Option Addr} {fs : Option (List (Str × D))} {ce : Value → Bool} {ie : Value → D → Option Bool} {x : Str} {p pos : Pos} {e1 : Expr} {es : List Expr} {dr : DA} {E : L2.St → XK} (I : IeOk X.K ce ie) (hz : Zc cls dd oe) (hf : ∃ vs, oe.data = .fields vs) (hx : fs = none → dd = none)
    (hm : X.mg x = none) (ha : DAx (X.suite a ((a, oe) :: pn)) E (e1 :: es) dr) (hg : Gl (X.suite a ((a, oe) :: pn)) x := by rfl) (hv : bootBuiltins x = some (.builtin "isinstance") := by decide +kernel) (hn : x ≠ "__name__" := by decide) (hdb : (x == ("__debug__" : Str)) = false := by decide)
    (he : starEach (e1 :: es) (X.suite a ((a, oe) :: pn)).env = (false, eval e1 (X.suite a ((a, oe) :: pn)).env) :: starEach es (X.suite a ((a, oe) :: pn)).env := by rfl) (hpl : (backTo pos (starEach es (X.suite a ((a, oe) :: pn)).env)).any (·.1) = false := by rfl) :
    DEx (X.suite a ((a, oe) :: pn)) E (.Call (.Name x p) (e1 :: es) [] pos) (dIsE fs ce ie cls a dr) := by
  by_cases h : fs = none ∧ ce cls = true
  · obtain ⟨rfl, hce⟩ := h
    obtain ⟨D, rfl, C⟩ := I.cl _ hce
    have := hx rfl
    subst this
    obtain ⟨ta, p1, s1⟩ := ha
    refine ⟨_, pe_callB (call_isE C hz hf) hg hm hv p1 hn hdb he hpl, fun S0 sl M σ H Q QD ED k xl hd l => ?_⟩
    obtain ⟨_, _, hd⟩ := hd
    refine s1 S0 sl M σ H _ _ ED k xl hd fun ds M1 vs H1 m1 x1 r1 q1 => ?_
    obtain ⟨e, b, rfl, ei, q⟩ := q1
    have hk := I.ok _ _ _ ei
    cases r1 with
    | cons ra rb =>
      cases rb with
      | cons rb rc =>
        cases rc
        cases ra
        rcases hk with ⟨T, rfl, kk⟩ | ⟨n, rfl, kk⟩
        · cases rb
          exact ⟨.ref T, .ref T, b, rfl, fun u hu => hu, kk, l _ M1 _ H1 m1 x1 (.bl b) q⟩
        · cases rb
          exact ⟨.ty n, .type n, b, rfl, fun u hu => hu, kk, l _ M1 _ H1 m1 x1 (.bl b) q⟩
  · exact ⟨_, pe_never, fun S0 sl M σ H Q QD ED k xl hd l => h ⟨hd.1, hd.2.1⟩⟩
/-! isinstance of own objects against built-in types -/
structure IsiTOk (K : PySem.W.Frag) (relT : Addr → String → Option Bool) : Prop where
  kit : ∀ C n b, relT C n = some b → PySem.W.kitOne K (.ref C) (.type n) = some b
  ins : ∀ C n b, relT C n = some b → InsTy K C
def isiTD (relT : Addr → String → Option Bool) : RCD := twoD fun d e M Q => match e with
  | .ty n => match d with
    | .obj C _ => ∃ b, relT C n = some b ∧ Q (.bl b) M
    | d => ∃ t b, tyD d = some t ∧ kitB t n = some b ∧ Q (.bl b) M
  | _ => False
theorem sc_isiT {relT : Addr → String → Option Bool} (c : IsiTOk K relT) : SimC K (rIsi K) (isiTD relT) := sc_two fun S0 M H v w d e Q QD m r r2 h l => by
  cases e with
  | ty n =>
    cases d with
    | obj C fs =>
      cases r2.ty_inv
      obtain ⟨b, e, q⟩ := h
      obtain ⟨h1, h2, h3, h4, h5⟩ := c.ins C n b e
      have fin : ∀ x, TyX K H x (.ref C) → rIsi K [x, .ty n] H Q := fun x hx => ⟨x, .ty n, .ref C, .type n, b, rfl, .ty n, hx, c.kit C n b e, l.now m (.bl _) q⟩
      cases r with
      | imm r => cases r with
        | obj _ g _ => exact fin _ (.base (.ins g h1 h2 h3 h4 h5))
      | obj g _ => exact fin _ (.base (.ins g h1 h2 h3 h4 h5))
    | _ =>
      cases r2.ty_inv
      obtain ⟨t, b, e, kb, q⟩ := h
      have fin : ∀ (x : V), TyX K H x (.type t) → rIsi K [x, .ty n] H Q := fun x hx => ⟨x, .ty n, .type t, .type n, b, rfl, .ty n, hx, kit_ty kb, l.now m (.bl _) q⟩
      first
        | (cases e; done)
        | (cases e; cases r.non_inv; exact fin _ (.base .non))
        | (cases e; cases r.bl_inv; exact fin _ (.base (.bl _)))
        | (cases e; cases r.int_inv; exact fin _ (.base (.int _)))
        | (cases e; cases r.str_inv; exact fin _ (.base (.str _)))
        | (cases e; obtain ⟨a, vs, rfl, h1, r1⟩ := r.lst_inv; exact fin _ (.base (.lst h1)))
        | (cases e; obtain ⟨a, vs, rfl, h1, r1⟩ := r.dic_inv; exact fin _ (h1.elim (fun h1 => .base (.dK h1)) fun ⟨o, h1⟩ => .fDict h1))
        | (cases e; obtain ⟨a, vs, rfl, h1, r1⟩ := r.tup_inv
           rcases h1 with (h1 | ⟨o, h1⟩) | ⟨o, its, n', h1, h2, _⟩
           · exact fin _ (.base (.tup h1))
           · exact fin _ (.fTuple h1)
           · exact fin _ (.kTuple h1 h2))
  | _ => exact h.elim
end
end OD

/-! F23: try .. except C as e: .. isinstance(e, D); isinstance of own objects against built-in types. -/
namespace F
open PySem PySem.Spec L2 OD
@[simp] def isiT1 (relT : Addr → String → Option Bool) : D → D → Option D
  | .obj C _, .ty n => (relT C n).map D.bl
  | d, .ty n => (match tyD d with | some t => (kitB t n).map D.bl | none => none)
  | _, _ => none
abbrev isiTF (relT : Addr → String → Option Bool) := twoF (isiT1 relT)
theorem isiTF_ok {relT : Addr → String → Option Bool} : RcF (isiTD relT) (isiTF relT) := twoF_ok fun d d' z M Q h q => by
  cases d' with
  | ty n =>
    cases d with
    | obj C fs =>
      replace h : (relT C n).map D.bl = some z := h
      cases e2 : relT C n with
      | none => rw [e2] at h; cases h
      | some b => rw [e2] at h; cases h; exact ⟨b, e2, q⟩
    | _ =>
      first
        | (cases h; done)
        | (obtain ⟨b, e, rfl⟩ := Option.map_eq_some_iff.mp h; exact ⟨_, b, rfl, e, q⟩)
  | _ => cases d <;> cases h
section
variable {as : FA} {dr : DA} {np : Nat} {s1 : FS} {t1 : DS}
@[simp] def fIsE (fs : Option (List (Str × D))) (ce : Value → Bool) (ie : Value → D → Option Bool) (cls : Value) (a : Addr) (as : FA) (s : Sl) : R Sv := match fs with
  | none => if ce cls = true then (as s).bind fun ds s => (match ds with
    | [.ref a', e] => if a' = a then optI ((ie cls e).map D.bl) s else .bad
    | _ => .bad) else .bad
  | some _ => .bad
theorem s_isE {fs : Option (List (Str × D))} {ce : Value → Bool} {ie : Value → D → Option Bool} {cls : Value} {a : Addr} (ha : SimA as dr) : SimE (fIsE fs ce ie cls a as) (dIsE fs ce ie cls a dr) := by
  intro c s sl M ED Q r q
  unfold fIsE at q
  cases fs with
  | some _ => exact q.elim
  | none =>
    dsimp only at q
    by_cases hc : ce cls = true
    · rw [if_pos hc] at q
      refine ⟨rfl, hc, ha c s sl M ED _ r ?_⟩
      cases e : as s with
      | ok ds s1 =>
        rw [e, ok_bind] at q
        intro M1 r1
        split at q
        · rename_i a' e'
          by_cases h : a' = a
          · subst h
            rw [if_pos rfl] at q
            cases ei : ie cls e' with
            | none => rw [ei] at q; exact q.elim
            | some b => rw [ei] at q; exact ⟨e', b, rfl, ei, q _ M1 (r1.im _)⟩
          · rw [if_neg h] at q; exact q.elim
        · exact q.elim
      | ex cl f' fs' => rw [e] at q; exact q
      | bad => rw [e] at q; exact q.elim
    · rw [if_neg hc] at q; exact q.elim
theorem RelW.gone {c : Cz} {fs : Sl} {sl : Slots} {M : Mem} {w : Sv} {d : D} (r : RelW c fs sl M w d) (i : Nat) : RelW c (fs.set i none) (sl.set i none) M w d := by
  obtain ⟨E, r⟩ := r
  refine ⟨E, r.nd, by rw [List.length_set, List.length_set, r.len], r.tmp, fun j sv e => ?_, r.sub, r.ndE, r.dis, r.pin, r.frs, r.pre, r.lks, r.lkd⟩
  by_cases h : i = j
  · subst h
    by_cases hl : i < fs.length
    · rw [List.getElem?_set_self hl] at e; cases e
    · rw [List.getElem?_eq_none (by rw [List.length_set]; omega)] at e; cases e
  · rw [List.getElem?_set_ne h] at e
    obtain ⟨d', e2, q⟩ := r.slt j sv e
    exact ⟨d', by rw [List.getElem?_set_ne h]; exact e2, q⟩
def unO (i : Nat) : O → O
  | .nx s => .nx (s.set i none)
  | .rt w s => .rt w (s.set i none)
  | .bk s => .bk (s.set i none)
  | .ct s => .ct (s.set i none)
  | .ex _ _ _ => .bad
  | .bad => .bad
@[simp] theorem unO_nx (i s) : unO i (.nx s) = .nx (s.set i none) := rfl
@[simp] theorem unO_rt (i w s) : unO i (.rt w s) = .rt w (s.set i none) := rfl
@[simp] theorem unO_bk (i s) : unO i (.bk s) = .bk (s.set i none) := rfl
@[simp] theorem unO_ct (i s) : unO i (.ct s) = .ct (s.set i none) := rfl
noncomputable def tryAsO (cm : Value → Option Bool) (i : Nat) (b : Addr → Value → Option (List (Str × D)) → FS) : O → O
  | .ex c f s => (match cm c with
    | some true => cif (∀ a : Addr, unO i (b a c f (s.set i (some (.im (.ref a))))) = unO i (b 0 c f (s.set i (some (.im (.ref 0)))))) (unO i (b 0 c f (s.set i (some (.im (.ref 0)))))) .bad
    | some false => .ex c f s
    | none => .bad)
  | o => o
@[simp] theorem tryAsO_nx (cm i b s) : tryAsO cm i b (.nx s) = .nx s := rfl
@[simp] theorem tryAsO_rt (cm i b w s) : tryAsO cm i b (.rt w s) = .rt w s := rfl
@[simp] theorem tryAsO_bk (cm i b s) : tryAsO cm i b (.bk s) = .bk s := rfl
@[simp] theorem tryAsO_ct (cm i b s) : tryAsO cm i b (.ct s) = .ct s := rfl
@[simp] theorem tryAsO_ex (cm i b c f s) : tryAsO cm i b (.ex c f s) = (match cm c with
    | some true => cif (∀ a : Addr, unO i (b a c f (s.set i (some (.im (.ref a))))) = unO i (b 0 c f (s.set i (some (.im (.ref 0)))))) (unO i (b 0 c f (s.set i (some (.im (.ref 0)))))) .bad
    | some false => .ex c f s
    | none => .bad) := rfl
@[simp] noncomputable def fTryAs (cm : Value → Option Bool) (i : Nat) (a : FS) (b : Addr → Value → Option (List (Str × D)) → FS) (s : Sl) : O := tryAsO cm i b (a s)
theorem s_tryAs {cm : Value → Option Bool} {i : Nat} {b : Addr → Value → Option (List (Str × D)) → FS} {ud : Addr → Value → Option (List (Str × D)) → DS} (h1 : SimS np s1 t1) (h2 : ∀ a cls fs, SimS np (b a cls fs) (ud a cls fs)) : SimS np (fTryAs cm i s1 b) (dTryAs cm i t1 ud) := by
  intro c hc Dd fs sl M r q
  refine h1 c hc _ fs sl M r ?_
  unfold fTryAs at q
  cases e : s1 fs with
  | ex cl f fs1 =>
    rw [e] at q
    intro sl' M' r'
    rw [tryAsO_ex] at q
    cases hm : cm cl with
    | none => rw [hm] at q; exact q.elim
    | some bb =>
      rw [hm] at q
      refine ⟨bb, hm, fun hb a => ?_, fun hb => ?_⟩
      · subst hb
        dsimp only at q
        by_cases hall : ∀ a : Addr, unO i (b a cl f (fs1.set i (some (.im (.ref a))))) = unO i (b 0 cl f (fs1.set i (some (.im (.ref 0)))))
        · rw [cif_pos hall, ← hall a] at q
          refine h2 a cl f c hc _ _ _ M' (r'.set i (.ref a)) ?_
          cases e2 : b a cl f (fs1.set i (some (.im (.ref a)))) with
          | ex _ _ _ => rw [e2] at q; exact q.elim
          | bad => rw [e2] at q; exact q.elim
          | nx s => rw [e2] at q; exact fun sl M r => q _ M (RelW.gone r i)
          | rt w s => rw [e2] at q; exact fun d sl M r => q d _ M (r.gone i)
          | bk s => rw [e2] at q; exact fun sl M r => q _ M (RelW.gone r i)
          | ct s => rw [e2] at q; exact fun sl M r => q _ M (RelW.gone r i)
        · rw [cif_neg hall] at q; exact q.elim
      · subst hb
        exact q sl' M' r'
  | bad => rw [e] at q; exact q.elim
  | nx _ => rw [e] at q; exact q
  | rt _ _ => rw [e] at q; exact q
  | bk _ => rw [e] at q; exact q
  | ct _ => rw [e] at q; exact q
end
end F

/-! OD27: {k: v}. -/
namespace OD
open PySem PySem.Spec L2
section
variable {X : Cx} {E : L2.St → XK} {da db : DE}
/-- {k: v}, k a number or a text -/
def dDic1 (da db : DE) : DE := fun sl M ED Q => da sl M NoX fun x M1 => db sl M1 NoX fun y M2 => ∃ k, keyD x = some k ∧ Q (.dic [(k, y)]) M2
theorem de_dic1 {k v : Expr} {pos : Pos} (hk : DEx X E k da) (hv : DEx X E v db) : DEx X E (.Dict [some k] [v] pos) (dDic1 da db) := by
  obtain ⟨tk, p1, s1⟩ := hk
  obtain ⟨tv, p2, s2⟩ := hv
  refine ⟨_, pe_disp (pps_cons p1 p2 pps_nil) rfl rfl (by simp) (by simp), fun S0 sl M σ H Q QD ED k xl hd l => ?_⟩
  intro p hp
  let S1 : Mark := fun a => S0 a ∨ a = p
  have mk : Mk S0 H S1 := ⟨fun a h => .inl h, fun a h => h.imp _root_.id fun e => by rw [e]; exact hp⟩
  have hs : ∀ a, S0 a → S1 a := fun a h => .inl h
  have b := k.mem.new_imm (o := .dK []) hp
  have m0 : MemOk X.K S1 M (upd H p (.dK [])) := by
    refine ⟨b.nd, fun e he => (k.mem.at_ e he).mono ((Ext.new_imm (M := M) (o := .dK []) hp).kpM mk) ?_, fun a h => ?_, fun a ha h => ?_⟩
    · rw [upd_ne]
      intro z
      exact (k.mem.at_ e he).some (by rw [z]; exact hp)
    · rcases h with h | h
      · exact b.trk a h
      · rw [h, upd_same]; exact fun z => by cases z
    · rcases h with h | h
      · exact k.mem.dis a ha h
      · rw [h] at ha; exact k.mem.notKey hp ha
  have k0 : Ok X.K S1 sl M σ (upd H p (.dK [])) := ⟨k.len, fun i d e => let ⟨v, e2, r⟩ := k.sl i d e; ⟨v, e2, Rep.mono ((Ext.new_imm (M := M) (o := .dK []) hp).kpM mk) d v r⟩, m0⟩
  refine s1 S1 sl M σ _ _ _ NoX k0 XL.no hd fun dk M1 x H1 m1 x1 r1 q1 => ?_
  refine s2 S1 sl M1 σ H1 _ _ NoX (k0.ext m1 x1) XL.no q1 fun dv M2 y H2 m2 x2 r2 q2 => ?_
  obtain ⟨kk, ek, q⟩ := q2
  have ex := keyD_V (.imm r1) ek
  subst ex
  have x12 := x1.trans x2
  have nM : ∀ {M' : Mem} {H' : Hp}, MemOk X.K S1 M' H' → p ∉ keys M' := fun m z => m.dis p z (.inr rfl)
  have ep : H2 p = some (.dK []) := x12.keep p _ upd_same (nM m0)
  have nS : ¬ S0 p := fun z => k.mem.trk p z hp
  have hH : H p = none := hp
  refine ⟨ep, [(kk, y)], rfl, by simp, ?_⟩
  have kp : Kp (SM S1 M2) H2 (SM S0 M2) (upd H2 p (.dK [(kk, y)])) := fun b ob eb n => ⟨by rw [upd_ne (fun z => n (.inl (.inr z)))]; exact eb, fun z => n (z.elim (fun z => .inl (.inl z)) .inr)⟩
  have mF : MemOk X.K S0 M2 (upd H2 p (.dK [(kk, y)])) := by
    refine ⟨m2.nd, fun e he => (m2.at_ e he).mono kp ?_, fun a h => ?_, fun a ha h => m2.dis a ha (.inl h)⟩
    · rw [upd_ne]
      intro z
      exact nM m2 (z ▸ List.mem_map.mpr ⟨e, he, rfl⟩)
    · have na : a ≠ p := fun z => nS (by rw [← z]; exact h)
      rw [upd_ne na]
      exact m2.trk a (.inl h)
  have xF : Ext M H M2 (upd H2 p (.dK [(kk, y)])) := by
    refine ⟨fun b ob eb n => ?_, fun b hb => ?_, fun b hb => ?_⟩
    · have nb : b ≠ p := ne_of_none eb hp
      rw [upd_ne nb]
      exact x12.keep b ob (by rw [upd_ne nb]; exact eb) n
    · rcases x12.new b hb with h | h
      · exact .inl h
      · by_cases z : b = p
        · rw [z, upd_same] at h; cases h
        · rw [upd_ne z] at h; exact .inr h
    · by_cases z : b = p
      · rw [z, upd_same]; exact fun z => by cases z
      · rw [upd_ne z]
        exact x12.trk b (by rw [upd_ne z]; exact hb)
  exact l (.dic [(kk, dv)]) M2 (.ref p) _ mF xF (.dic (fun z => z.elim nS (nM m2)) (.inl upd_same) (.cons (Rep.mono kp _ _ r2) .nil)) q
/-- a call of a def that may raise, but does not -/
theorem de_callXN {a : Expr} {es : List Expr} {pos p : Pos} {dr : DA} {F : FD} {x : Str} {ps : List Str} {k : Nat} (c : DefOkX X.prog X.w X.K X.mg X.base k x ps F) (hr : Room k X.A) (ha : DAx X E (a :: es) dr) (hg : Gl X x := by rfl) (hdb : (x == ("__debug__" : Str)) = false := by decide)
    (he : starEach (a :: es) X.env = (false, eval a X.env) :: starEach es X.env := by rfl) (hpl : (backTo pos (starEach es X.env)).any (·.1) = false := by rfl) : DEx X E (.Call (.Name x p) (a :: es) [] pos) (dCallN F dr) := by
  obtain ⟨f, fd, m, kp, b, G⟩ := c
  obtain ⟨t, pa, s⟩ := ha
  exact ⟨_, pe_call G hr hg m kp b .nil passL pa hdb he hpl, sim_callN s⟩
/-- str(n) -/
def strID : RCD := oneD fun d M Q => match d with
  | .int i => i.natAbs.log2 < 1920 ∧ Q (.str (toString i)) M
  | _ => False
theorem sc_strI {K : PySem.W.Frag} : SimC K (fun xs H Q => ∃ i, xs = [.int i] ∧ i.natAbs.log2 < 1920 ∧ Q (.str (toString i)) H) strID := sc_one fun S0 M H v d Q QD m r h l => by
  cases d with
  | int i => cases r.int_inv; exact ⟨i, rfl, h.1, l.now m (.str _) h.2⟩
  | _ => exact h.elim
end
end OD

/-! F24: {k: v}, str(n). -/
namespace F
open PySem PySem.Spec L2 OD
section
variable {fa fb : FE} {da db : DE}
@[simp] def fDic1 (fa fb : FE) (s : Sl) : R Sv := (nox (fa s)).bind fun x s => imK x fun x => (nox (fb s)).bind fun y s => imK y fun y => match keyD x with
  | some k => .ok (.im (.dic [(k, y)])) s
  | none => .bad
theorem s_dic1 (ha : SimE fa da) (hb : SimE fb db) : SimE (fDic1 fa fb) (dDic1 da db) := by
  intro c s sl M ED Q r q
  refine ha c s sl M _ _ r ?_
  unfold fDic1 at q
  cases e : fa s with
  | ex _ _ _ => rw [e] at q; exact q.elim
  | bad => rw [e] at q; exact q.elim
  | ok x s1 =>
    rw [e, nox_ok, ok_bind] at q
    intro d M1 r1
    cases x with
    | im x =>
      cases r1.eq
      dsimp only [imK] at q
      refine hb c s1 sl M1 _ _ r1.rel ?_
      cases e2 : fb s1 with
      | ex _ _ _ => rw [e2] at q; exact q.elim
      | bad => rw [e2] at q; exact q.elim
      | ok y s2 =>
        rw [e2, nox_ok, ok_bind] at q
        intro d2 M2 r2
        cases y with
        | im y =>
          cases r2.eq
          dsimp only [imK] at q
          split at q
          · rename_i k ek
            exact ⟨k, ek, q _ M2 (r2.im _)⟩
          · exact q.elim
        | _ => exact q.elim
    | _ => exact q.elim
end
theorem s_callXN {dr : DA} {n : Nat} {ff : FF} {fr : FR} (hr : SimR fr dr) : SimE (fCall n ff fr) (dCallN (fdX n ff) dr) := by
  intro c fs sl M ED Q r q
  refine hr c fs sl M ED _ r ?_
  unfold fCall at q
  cases e : fr fs with
  | ok xs fs1 =>
    rw [e, ok_bind] at q
    intro ds M1 r1 ha
    obtain ⟨E, r1⟩ := r1
    unfold call at q
    cases eg : argSv fs1 xs with
    | none => rw [eg] at q; exact q.elim
    | some args =>
      rw [eg] at q
      dsimp only at q
      by_cases hh : args.length = n ∧ (ownJ fs1 xs).Nodup
      · rw [if_pos hh] at q
        have en := args_ents r1 ha eg
        obtain ⟨ks, hks⟩ := at_of (es_sub r1 eg)
        refine ⟨ks, hks.nd (nd_es r1 eg hh.2), by rw [hks.sel, hks.len], ?_⟩
        rw [hks.sel]
        refine ⟨nd_es r1 eg hh.2, args, _, hh.1, en, rfl, ?_⟩
        cases ef : ff args with
        | ok w outs =>
          rw [ef] at q
          intro d Ew Es' g1 g2 g3 g4
          exact q d _ (call_ok r1 ha eg hh.2 hks g1 g2 g3 g4)
        | ex cl f outs => rw [ef] at q; exact q.elim
        | bad => rw [ef] at q; exact q.elim
      · rw [if_neg hh] at q; exact q.elim
  | ex cl f' fs' => rw [e] at q; exact q
  | bad => rw [e] at q; exact q.elim
@[simp] noncomputable def strI1 : D → Option D
  | .int i => cif (i.natAbs.log2 < 1920) (some (.str (toString i))) none
  | _ => none
noncomputable abbrev strIF := oneF strI1
theorem strIF_ok : RcF strID strIF := oneF_ok fun d z M Q h q => by
  cases d with
  | int i =>
    obtain ⟨hz, rfl⟩ := cif_inv h
    exact ⟨hz, q⟩
  | _ => cases h
end F

/-! OD28: list.insert. -/
namespace OD
open PySem PySem.Spec L2
def rInsA : V → List V → Hp → VK → Prop := fun x vs H Q => ∃ (l : Addr) (xs : List V) (i : Int) (y : V), x = .ref l ∧ vs = [.int i, y] ∧ H l = some (.lst xs) ∧ xs.length < sizeLine ∧ 0 ≤ i ∧ i < 2 ^ 63 ∧
    Q .non (upd H l (.lst (xs.take i.toNat ++ [y] ++ xs.drop i.toNat)))
theorem mt_insA {X : Cx} : MtR X "list.insert" rInsA := mt_insert
def insF : List D → List D → (List D → Mem) → DK → Prop := fun xs ds wr Q => match ds with
  | [.int i, .int k] => xs.length < sizeLine ∧ 0 ≤ i ∧ i < 2 ^ 63 ∧ Q .non (wr (xs.take i.toNat ++ [.int k] ++ xs.drop i.toNat))
  | _ => False
theorem sm_ins {K : PySem.W.Frag} : SimM K rInsA insF := by
  intro S0 M H p vs ds j xs Q QD m rs e h l
  cases rs with
  | nil => exact h.elim
  | cons r rs =>
    rename_i v vs d ds
    cases d with
    | int i =>
      cases rs with
      | nil => exact h.elim
      | cons r2 rs =>
        rename_i v2 vs d2 ds
        cases d2 with
        | int k =>
          cases rs with
          | cons _ _ => exact h.elim
          | nil =>
            obtain ⟨hl, h0, h1, q⟩ := h
            cases r.int_inv
            cases r2.int_inv
            obtain ⟨ws, g1, g2⟩ := m.at_ _ (List.mem_of_getElem? e)
            exact ⟨p, ws, i, .int k, rfl, rfl, g1, by rw [g2.length]; exact hl, h0, h1, wr_lst m e (((g2.take _).append (.cons (by constructor) .nil)).append (g2.drop _)) .non q l⟩
        | _ => exact h.elim
    | _ => exact h.elim
end OD

/-! F25: list.insert. -/
namespace F
open PySem PySem.Spec L2 OD
@[simp] noncomputable def insFF (xs : List D) : List D → Option (List D × D)
  | [.int i, .int k] => cif (xs.length < 16777216 ∧ 0 ≤ i ∧ i < 9223372036854775808) (some (xs.take i.toNat ++ [.int k] ++ xs.drop i.toNat, .non)) none
  | _ => none
theorem insFF_ok : ∀ xs ws ys d wr Q, insFF xs ws = some (ys, d) → Q d (wr ys) → insF xs ws wr Q := by
  intro xs ws ys d wr Q h q
  unfold insFF at h
  split at h
  · obtain ⟨⟨hz, h0, h1⟩, e⟩ := cif_inv h
    cases e
    exact ⟨hz, h0, by omega, q⟩
  · cases h
end F

/-! OD29: sorted(ints). -/
namespace OD
open PySem PySem.Spec L2
def sortedD : RCD := oneD fun d M Q => match d with
  | .lst xs => ∃ ns : List Int, xs = ns.map .int ∧ ∀ ns' : List Int, ns'.Perm ns → ns'.Pairwise (· ≤ ·) → Q (.lst (ns'.map .int)) M
  | _ => False
theorem sc_sorted {K : PySem.W.Frag} : SimC K (rSortedI K) sortedD := sc_one fun S0 M H v d Q QD m r h l => by
  cases d with
  | lst xs =>
    obtain ⟨a, vs, rfl, h1, r1⟩ := r.lst_inv
    obtain ⟨ns, rfl, h3⟩ := h
    cases r1.ints_inv
    refine ⟨a, ns, rfl, .inl (.inl h1), fun ns' p hp hw => ?_⟩
    refine al_lst (o := false) m ?_ (h3 ns' hp hw) l p
    clear h3 hw hp
    induction ns' with
    | nil => exact .nil
    | cons x r ih => exact .cons (by constructor) ih
  | _ => exact h.elim
end OD

/-! F26: sorted(ints). -/
namespace F
open PySem PySem.Spec L2 OD
/-- the numbers of a list of numbers -/
def numsF : List D → Option (List Int)
  | [] => some []
  | .int i :: r => (numsF r).map (i :: ·)
  | _ => none
theorem numsF_inv {xs : List D} {ns : List Int} (h : numsF xs = some ns) : xs = ns.map .int := by
  induction xs generalizing ns with
  | nil => cases h; rfl
  | cons x r ih =>
    cases x with
    | int i =>
      unfold numsF at h
      cases e : numsF r with
      | none => rw [e] at h; cases h
      | some m => rw [e] at h; cases h; rw [ih e]; rfl
    | _ => cases h
theorem numsF_map (ns : List Int) : numsF (ns.map .int) = some ns := by
  induction ns with
  | nil => rfl
  | cons x r ih => show (numsF (r.map .int)).map (x :: ·) = _; rw [ih]; rfl
def sortI (ns : List Int) : List Int := ns.mergeSort (fun a b => decide (a ≤ b))
theorem sortI_perm (ns : List Int) : (sortI ns).Perm ns := List.mergeSort_perm ns _
theorem sortI_srt (ns : List Int) : (sortI ns).Pairwise (· ≤ ·) := by
  have h := List.pairwise_mergeSort (le := fun a b : Int => decide (a ≤ b)) (fun a b c h1 h2 => by simp at *; omega) (fun a b => by simp; omega) ns
  exact h.imp fun h => by simpa using h
theorem srt_uniq : ∀ {a b : List Int}, a.Perm b → a.Pairwise (· ≤ ·) → b.Pairwise (· ≤ ·) → a = b := by
  intro a
  induction a with
  | nil => intro b h _ _; exact (List.nil_perm.mp h).symm
  | cons x r ih =>
    intro b h h1 h2
    cases b with
    | nil => exact (List.perm_nil.mp h)
    | cons y s =>
      have hx : x ∈ y :: s := h.mem_iff.mp (by simp)
      have hy : y ∈ x :: r := h.mem_iff.mpr (by simp)
      have e : x = y := by
        rcases List.mem_cons.mp hx with e | hx
        · exact e
        · rcases List.mem_cons.mp hy with e | hy
          · exact e.symm
          · have a1 := (List.pairwise_cons.mp h2).1 x hx
            have a2 := (List.pairwise_cons.mp h1).1 y hy
            omega
      subst e
      rw [ih (List.Perm.cons_inv h) (List.pairwise_cons.mp h1).2 (List.pairwise_cons.mp h2).2]
def sorted1 : D → Option D
  | .lst xs => (numsF xs).map fun ns => .lst ((sortI ns).map .int)
  | _ => none
theorem sorted1_eq (ns : List Int) : sorted1 (.lst (ns.map .int)) = some (.lst ((sortI ns).map .int)) := by
  show (numsF (ns.map .int)).map _ = _
  rw [numsF_map]
  rfl
noncomputable abbrev sortedF := oneF sorted1
theorem sortedF_ok : RcF sortedD sortedF := oneF_ok fun d z M Q h q => by
  cases d with
  | lst xs =>
    unfold sorted1 at h
    dsimp only at h
    cases e : numsF xs with
    | none => rw [e] at h; cases h
    | some ns =>
      rw [e] at h
      cases h
      refine ⟨ns, numsF_inv e, fun ns' hp hw => ?_⟩
      rw [srt_uniq (hp.trans (sortI_perm ns).symm) hw (sortI_srt ns)]
      exact q
  | _ => cases h
end F

/-! OD30: t[::-1] of a tuple; a call of [f, g, h, k][i](..). -/
namespace HT
open PySem PySem.Spec PyProof.Rows L2
section
variable {prog : Program} {w : World} {A : Around} {E : Value → Shared → Prop} {s : Shared}
theorem adjust_rev (n : Nat) : Builtin.Slice.sliceAdjust none none (-1) (n : Int) = ((n : Int) - 1, -1) := by
  unfold Builtin.Slice.sliceAdjust
  simp
theorem places_rev (n : Nat) : Builtin.Slice.slicePlaces ((n : Int) - 1) (-1) (-1) = n := by
  unfold Builtin.Slice.slicePlaces
  rw [if_neg (by decide)]
  by_cases h : (n : Int) - 1 > -1
  · rw [if_pos h, show (-(-1 : Int)) = 1 by decide, Int.ediv_one]
    omega
  · rw [if_neg h]
    omega
theorem applied_rev {sl : Addr} {vl vu vs : Value} {n : Nat} {Q : Int × Int × Nat → Shared → Prop} (hs : s.heap.IsSliceOf sl vl vu vs) (pl : IsPart vl none) (pu : IsPart vu none) (ps : IsPart vs (some (-1)))
    (h : Q ((n : Int) - 1, -1, n) s) : wpAny (model prog w) A (Builtin.Slice.sliceApplied (.ref sl) (pure (n : Int))) Q E s := by
  obtain ⟨os, hos, hcs, hds⟩ := id hs
  unfold Builtin.Slice.sliceApplied Builtin.Slice.sliceFields
  refine wpAny_bind (wpAny_bind (wpAny_field hos hds (x := vl) rfl (wpAny_bind (wpAny_field hos hds (x := vu) rfl (wpAny_bind (wpAny_field hos hds (x := vs) rfl (wpAny_pure ?_)))))))
  refine wpAny_bind (slicePart_ ps ?_)
  show wpAny _ _ (if ((-1 : Int) == 0) = true then _ else _) _ _ s
  rw [if_neg (by decide)]
  refine wpAny_bind (slicePart_ pl (wpAny_bind (slicePart_ pu (wpAny_bind (wpAny_pure ?_)))))
  show wpAny _ _ (match Builtin.Slice.sliceAdjust none none (-1) (n : Int) with | (lo, hi) => pure (lo, (-1 : Int), Builtin.Slice.slicePlaces lo hi (-1))) _ _ s
  rw [adjust_rev n]
  show wpAny _ _ (pure ((n : Int) - 1, (-1 : Int), Builtin.Slice.slicePlaces ((n : Int) - 1) (-1) (-1))) _ _ s
  rw [places_rev]
  exact wpAny_pure h
theorem pick_rev (xs : Array Value) : ((List.range xs.size).filterMap fun (m : Nat) => xs[(((xs.size : Int) - 1) + (m : Int) * (-1)).toNat]?).toArray = xs.toList.reverse.toArray := by
  congr 1
  rw [← PySem.W.krv_all xs, ← List.filterMap_reverse, ← PySem.W.krv_range]
  have e : ((List.range xs.size).filterMap fun (m : Nat) => xs[(((xs.size : Int) - 1) + (m : Int) * (-1)).toNat]?) = ((List.range xs.size).map fun (m : Nat) => (((xs.size : Int) - 1) + (m : Int) * (-1)).toNat).filterMap (xs[·]?) := by
    rw [List.filterMap_map]
    rfl
  rw [e]
  congr 1
  refine List.map_congr_left fun m hm => ?_
  have hm' := List.mem_range.mp hm
  omega
theorem getItem_tuple_rev {t sl : Addr} {items : Array Value} {vl vu vs : Value} {Q : Value → Shared → Prop} (ht : IsTup s.heap t items) (hs : s.heap.IsSliceOf sl vl vu vs) (pl : IsPart vl none) (pu : IsPart vu none) (ps : IsPart vs (some (-1)))
    (h : Q (.ref s.heap.objs.size) { s with heap := s.heap.push { cls := .type "tuple", data := .seq items.toList.reverse.toArray } })
    (hsz : items.size ≤ sizeLine) : wpAny (model prog w) A (getItem (.ref t) (.ref sl)) Q E s := by
  have htake : sizeOk (.seq items.toList.reverse.toArray) := by
    show items.toList.reverse.toArray.size ≤ sizeLine
    rw [List.size_toArray, List.length_reverse, Array.length_toList]
    exact hsz
  obtain ⟨os, hos, hcs, hds⟩ := id hs
  have hTs : s.TypeIs (.ref sl) "slice" := ⟨os, hos, hcs⟩
  unfold getItem
  try with_reducible refine wpAny_holding ?_
  first | refine wpAny_bind (wpAny_pure ?_) | skip
  refine wpAny_bind (wpAny_sequenceKey ht.typeIs (by decide) ?_)
  refine wpAny_bind (wpAny_callSpecial?_slot (name := Str.ofString "__getitem__") ht.typeIs PyProof.Rows.slot_tuple_getitem
    (wpAny_call_entry PyProof.Rows.slot_tuple_getitem ht.typeIs entry_tuple_getitem ?_ (args_tuple_getitem _ _)))
  show wpAny _ _ (Builtin.Tuple.tupleItemsOf (.ref t) >>= _) _ _ s
  refine wpAny_bind (tupleItemsOf_ ht ?_)
  refine wpAny_bind (wpAny_typeOf hTs ?_)
  rw [if_pos (by decide)]
  refine wpAny_bind (applied_rev hs pl pu ps ?_)
  have hno : ¬ ((((items.size : Int) - 1 == 0) && ((-1 : Int) == 1) && (items.size == items.size)) = true) := by
    intro q
    rw [Bool.and_eq_true, Bool.and_eq_true] at q
    exact absurd q.1.2 (by decide)
  show wpAny _ _ (if (((items.size : Int) - 1 == 0) && ((-1 : Int) == 1) && (items.size == items.size)) = true then _ else _) _ _ s
  rw [if_neg hno, pick_rev]
  first
    | exact wpAny_bind (m := Builtin.Tuple.tupleExact _) (wpAny_newObj_type (wpAny_pure ⟨_, rfl, wpAny_pure h⟩) htake)
    | exact wpAny_bind (m := Builtin.Tuple.tupleExact _) (wpAny_newObj_type (wpAny_bind (wpAny_pure (wpAny_pure ⟨_, rfl, wpAny_pure h⟩))) htake)
    | exact wpAny_bind (wpAny_bind (m := Builtin.Tuple.tupleExact _) (wpAny_newObj_type (wpAny_pure (wpAny_pure ⟨_, rfl, wpAny_pure h⟩)) htake))
    | exact wpAny_bind (wpAny_bind (m := Builtin.Tuple.tupleExact _) (wpAny_newObj_type (wpAny_pure ⟨_, rfl, wpAny_pure h⟩) htake))
end
end HT
namespace OD
open PySem PySem.Spec L2 PyProof.Rows
section
variable {X : Cx} {E : L2.St → XK} {da : DE} {dr : DA} {ks : List Nat} {k : Nat}
def tRevT (K : PySem.W.Frag) (te : TE) : TE := fun σ H Q => te σ H fun x H1 => ∃ a xs, x = .ref a ∧ SqT K H1 a xs ∧ ∀ p, H1 p = none → Q (.ref p) (upd H1 p (.tup xs.reverse))
theorem pe_revT {e : Expr} {te : TE} {k : Nat} {p1 p2 p3 pos : Pos} (he : PE X e te) : PE X (.Subscript e (.Slice none none (some (.UnaryOp .USub (.Constant (.int 1) k p1) p2)) p3) pos) (tRevT X.K te) := by
  refine ⟨fun pins s σ H Q I h => ?_⟩
  refine Subscript_ (thn (he.run pins s σ H _ I h) fun v s1 ⟨x, H1, I1, r1, q1⟩ => ?_)
  obtain ⟨a, xs, ex, hx, q⟩ := q1
  subst ex
  cases r1
  have hst : PO X (some (.UnaryOp .USub (.Constant (.int 1) k p1) p2)) (tPart (tUn (rU fun i => .int (-i)) (tC (.int 1)))) := po_some (pe_un un_neg pe_int)
  refine wpAny_Slice (thn (po_none.run pins s1 σ H1 (fun o H2 => o = none ∧ H2 = H1) I1 ⟨rfl, rfl⟩) fun vl s2 ⟨l, H2, I2, pl, el, e2⟩ => ?_)
  subst el e2
  refine thn (po_none.run pins s2 σ H2 (fun o H3 => o = none ∧ H3 = H2) I2 ⟨rfl, rfl⟩) fun vu s3 ⟨u, H3, I3, pu, eu, e3⟩ => ?_
  subst eu e3
  refine thn (hst.run pins s3 σ H3 (fun o H4 => o = some (-1) ∧ H4 = H3) I3 ⟨1, rfl, -1, rfl, rfl, rfl⟩) fun vs s4 ⟨o, H4, I4, ps, eo, e4⟩ => ?_
  subst eo e4
  have I5 : Inv X pins σ H4 { s4 with heap := s4.heap.push { cls := .type "slice", data := .fields #[vl, vu, vs] } } := I4.kept (t' := s4.toks) fun b ob q => Heap.get?_push_of_some _ q
  obtain ⟨its, r, ht, hz⟩ := I5.tuple hx
  have hlen := r.length
  show wpAny (model X.prog X.w) X.A (subscriptTail e (.Slice none none (some (.UnaryOp .USub (.Constant (.int 1) k p1) p2)) p3) (.ref a) (.ref s4.heap.objs.size)) (EP X pins σ Q) X.xe { s4 with heap := s4.heap.push { cls := .type "slice", data := .fields #[vl, vu, vs] } }
  refine tail_any (ops := [.ref a, .ref s4.heap.objs.size]) ht.typeIs (PyProof.Rows.slot_tuple_getitem.lookup) ?_ (by with_unfolding_all rfl)
  refine HT.getItem_tuple_rev ht (Heap.IsSliceOf.new _ vl vu vs) pl pu ps ?_ (by rw [List.size_toArray]; omega)
  refine ⟨.ref _, _, I5.laid (t' := s4.toks) (o := .tup xs.reverse) (fun b ob q => Heap.get?_push_of_some _ q) (Nat.le_refl _) ?_, rfl, q _ (I5.hok.fresh (Nat.le_refl _))⟩
  exact ⟨by rw [List.length_reverse]; exact hz, _, r.reverse, IsTup.new _ _⟩
def dRevT (da : DE) : DE := fun sl M ED Q => da sl M ED fun x M1 => ∃ xs, x = .tup xs ∧ Q (.tup xs.reverse) M1
theorem de_revT {a : Expr} {k : Nat} {p1 p2 p3 pos : Pos} (ha : DEx X E a da) : DEx X E (.Subscript a (.Slice none none (some (.UnaryOp .USub (.Constant (.int 1) k p1) p2)) p3) pos) (dRevT da) := by
  obtain ⟨ta, p, s⟩ := ha
  refine ⟨_, pe_revT p, fun S0 sl M σ H Q QD ED k xl hd l => ?_⟩
  refine s S0 sl M σ H _ _ ED k xl hd fun d1 M1 x H1 m1 x1 r1 q1 => ?_
  obtain ⟨xs, rfl, q⟩ := q1
  obtain ⟨b, vs, rfl, t1, t2⟩ := (RepT.imm r1).tup_inv
  exact ⟨b, vs, rfl, t1, new_tup m1 t2.reverse q (l.ext x1)⟩
end
end OD

/-! F27: t[::-1] of a tuple; [f, g, h, k][i](..). -/
namespace OD
open PySem PySem.Spec L2
section
variable {X : Cx} {E : L2.St → XK} {K : PySem.W.Frag} {a fe : Expr} {es : List Expr} {pos p : Pos} {df : DE} {dr : DA} {S : Addr → FD → Prop} {k : Nat}
def dCallE' (df : DE) (S : Addr → FD → Prop) (dr : DA) : DE := fun sl M ED Q => df sl M ED fun d M1 => ∃ f F, d = .ref f ∧ S f F ∧ dr sl M1 ED fun ds M2 => ∃ ks : List Nat, ks.Nodup ∧ (sel ks M2).length = ks.length ∧ F ds (sel ks M2) (fun _ _ _ => False) fun d Mc => (keys (putM ks M2 Mc)).Nodup → Q d (putM ks M2 Mc)
theorem sim_callE' {tf : TE} {t : TA} (sf : OD.SimE K E tf df) (s : OD.SimA K E t dr) : OD.SimE K E (tCallE K tf S t) (dCallE' df S dr) := by
  intro S0 sl M σ H Q QD ED k xl hd l
  refine sf S0 sl M σ H _ _ ED k xl hd fun d M1 v H1 m1 x1 r1 q1 => ?_
  obtain ⟨f, F, rfl, hS, q1⟩ := q1
  cases r1
  refine ⟨f, F, rfl, hS, s S0 sl M1 σ H1 _ _ ED (k.ext m1 x1) (xl.ext x1) q1 fun ds M2 vs H2 m2 x2 r2 q2 => ?_⟩
  obtain ⟨ks, hk, hl, q⟩ := q2
  refine ⟨mk0 S0 ks M2, ds, sel ks M2, _, _, m2.sel hk, by rw [mk0_sm]; exact r2, q, fun d M' v H' m' x' pr r' q' => ?_, fun cls fs M' dd H' m' x' pr r' q' => q'.elim⟩
  obtain ⟨g1, g2, g3⟩ := put_back m2 hk hl m' x' pr
  exact l d _ v H' g1 ((x1.trans x2).trans g2) (by rw [g3]; exact r') (q' g1.nd)
theorem de_callE' (A : ∀ f F, S f F → HeldD X.prog X.w X.K X.mg X.base k f F) (hr : Room k X.A) (hf : DEx X E fe df) (ha : DAx X E (a :: es) dr)
    (ht : eval (.Call fe (a :: es) [] pos) X.env = (do callWith pos (← eval fe X.env) [] (backTo pos (starEach (a :: es) X.env)) (backToKw pos (keywordEach [] X.env))) := by rfl)
    (he : starEach (a :: es) X.env = (false, eval a X.env) :: starEach es X.env := by rfl) (hpl : (backTo pos (starEach es X.env)).any (·.1) = false := by rfl) : DEx X E (.Call fe (a :: es) [] pos) (dCallE' df S dr) := by
  obtain ⟨tf, pf, sf⟩ := hf
  obtain ⟨t, pa, s⟩ := ha
  exact ⟨_, pe_callE A hr pf pa ht he hpl, sim_callE' sf s⟩
/-- [f, g, h, k][i](..), i a name -/
def dPick4 (Fa Fb Fc Fd : FD) (i : Nat) (dr : DA) : DE := fun sl M ED Q => (sl[i]? = some (some (.int 0)) ∧ dCallN Fa dr sl M ED Q) ∨ (sl[i]? = some (some (.int 1)) ∧ dCallN Fb dr sl M ED Q) ∨ (sl[i]? = some (some (.int 2)) ∧ dCallN Fc dr sl M ED Q) ∨ (sl[i]? = some (some (.int 3)) ∧ dCallN Fd dr sl M ED Q)
theorem held_of {P : Program} {w : World} {mg : Str → Option Value} {base : Heap} {j k : Nat} {x : Str} {ps : List Str} {F : FD} (c : DefOk P w K mg base j x ps F) (h : j ≤ k) : ∃ f, mg x = some (.ref f) ∧ HeldD P w K mg base k f F := by
  obtain ⟨f, fd, m, kp, b, G⟩ := c
  exact ⟨f, m, ⟨fd, ps, G.mono h, kp, b⟩⟩
theorem de_pick4 {xa xb xc xd : Str} {pa pb pc pd lpos spos : Pos} {psa psb psc psd : List Str} {Fa Fb Fc Fd : FD} {ie : Expr} {i ja jb jc jd : Nat} (k : Nat) (ca : DefOk X.prog X.w X.K X.mg X.base ja xa psa Fa) (cb : DefOk X.prog X.w X.K X.mg X.base jb xb psb Fb) (cc : DefOk X.prog X.w X.K X.mg X.base jc xc psc Fc) (cd : DefOk X.prog X.w X.K X.mg X.base jd xd psd Fd)
    (la : ja ≤ k) (lb : jb ≤ k) (lc : jc ≤ k) (ld : jd ≤ k)
    (hu : X.A.units + 64 < cLine) (hr : Room k X.A) (hi : DEx X E ie (dVar i)) (ha : DAx X E (a :: es) dr)
    (ga : Gl X xa := by rfl) (gb : Gl X xb := by rfl) (gc : Gl X xc := by rfl) (gd : Gl X xd := by rfl) (da : (xa == ("__debug__" : Str)) = false := by decide) (db : (xb == ("__debug__" : Str)) = false := by decide) (dc : (xc == ("__debug__" : Str)) = false := by decide) (dd : (xd == ("__debug__" : Str)) = false := by decide)
    (hs : PlainIx ie := by exact fun _ _ => rfl)
    (ht : eval (.Call (.Subscript (.List [.Name xa pa, .Name xb pb, .Name xc pc, .Name xd pd] lpos) ie spos) (a :: es) [] pos) X.env = (do callWith pos (← eval (.Subscript (.List [.Name xa pa, .Name xb pb, .Name xc pc, .Name xd pd] lpos) ie spos) X.env) [] (backTo pos (starEach (a :: es) X.env)) (backToKw pos (keywordEach [] X.env))) := by rfl)
    (he : starEach (a :: es) X.env = (false, eval a X.env) :: starEach es X.env := by rfl) (hpl : (backTo pos (starEach es X.env)).any (·.1) = false := by rfl) :
    DEx X E (.Call (.Subscript (.List [.Name xa pa, .Name xb pb, .Name xc pc, .Name xd pd] lpos) ie spos) (a :: es) [] pos) (dPick4 Fa Fb Fc Fd i dr) := by
  obtain ⟨fa, ma, Ha⟩ := held_of ca la
  obtain ⟨fb, mb, Hb⟩ := held_of cb lb
  obtain ⟨fc, mc, Hc⟩ := held_of cc lc
  obtain ⟨fd, md, Hd⟩ := held_of cd ld
  refine (de_callE' (S := fun f F => (f = fa ∧ F = Fa) ∨ (f = fb ∧ F = Fb) ∨ (f = fc ∧ F = Fc) ∨ (f = fd ∧ F = Fd)) (fun f F h => ?_) hr
    (de_ix hu (de_lst false (da_cons (de_glob (v := .ref fa) (d := .ref fa) ga ma rfl (fun _ _ => .ref _) da) (da_cons (de_glob (v := .ref fb) (d := .ref fb) gb mb rfl (fun _ _ => .ref _) db) (da_cons (de_glob (v := .ref fc) (d := .ref fc) gc mc rfl (fun _ _ => .ref _) dc) (da_cons (de_glob (v := .ref fd) (d := .ref fd) gd md rfl (fun _ _ => .ref _) dd) da_nil))))) hi hs) ha ht he hpl).weak ?_
  · rcases h with ⟨rfl, rfl⟩ | ⟨rfl, rfl⟩ | ⟨rfl, rfl⟩ | ⟨rfl, rfl⟩
    · exact Ha
    · exact Hb
    · exact Hc
    · exact Hd
  · intro sl M ED Q h
    have h4 : (4 : Nat) ≤ sizeLine := by decide
    rcases h with ⟨e, q⟩ | ⟨e, q⟩ | ⟨e, q⟩ | ⟨e, q⟩
    · exact ⟨h4, _, e, _, atI_nat (j := 0) rfl, _, _, rfl, .inl ⟨rfl, rfl⟩, q⟩
    · exact ⟨h4, _, e, _, atI_nat (j := 1) rfl, _, _, rfl, .inr (.inl ⟨rfl, rfl⟩), q⟩
    · exact ⟨h4, _, e, _, atI_nat (j := 2) rfl, _, _, rfl, .inr (.inr (.inl ⟨rfl, rfl⟩)), q⟩
    · exact ⟨h4, _, e, _, atI_nat (j := 3) rfl, _, _, rfl, .inr (.inr (.inr ⟨rfl, rfl⟩)), q⟩
end
end OD
namespace F
open PySem PySem.Spec L2 OD
section
variable {fa : FE} {da : DE} {dr : DA}
@[simp] def fRevT (fa : FE) (s : Sl) : R Sv := (fa s).bind fun w s => match w with
  | .im (.tup xs) => .ok (.im (.tup xs.reverse)) s
  | _ => .bad
theorem s_revT (ha : SimE fa da) : SimE (fRevT fa) (dRevT da) := by
  intro c s sl M ED Q r q
  refine ha c s sl M ED _ r (poE_cases q fun w fs1 e q d M1 r1 => ?_)
  split at q
  · rename_i xs
    cases r1.eq
    exact ⟨xs, rfl, q _ M1 (r1.im _)⟩
  · exact q.elim
def fPick4 (n : Nat) (fa fb fc fd : FF) (i : Nat) (fr : FR) (s : Sl) : R Sv := match s[i]? with
  | some (some (.im (.int 0))) => fCall n fa fr s
  | some (some (.im (.int 1))) => fCall n fb fr s
  | some (some (.im (.int 2))) => fCall n fc fr s
  | some (some (.im (.int 3))) => fCall n fd fr s
  | _ => .bad
theorem slot_im {c : Cz} {fs : Sl} {sl : Slots} {M : Mem} {i : Nat} {d : D} (r : Rel c fs sl M) (e : fs[i]? = some (some (.im d))) : sl[i]? = some (some d) := by
  obtain ⟨E, r⟩ := r
  obtain ⟨y, h1, h2⟩ := r.slt i _ e
  cases h2.1
  exact h1
theorem s_pick4 {n : Nat} {fa fb fc fd : FF} {i : Nat} {fr : FR} (hr : SimR fr dr) : SimE (fPick4 n fa fb fc fd i fr) (dPick4 (fdN n fa) (fdN n fb) (fdN n fc) (fdN n fd) i dr) := by
  intro c s sl M ED Q r q
  unfold fPick4 at q
  split at q
  · rename_i e; exact .inl ⟨slot_im r e, s_call hr c s sl M ED Q r q⟩
  · rename_i e; exact .inr (.inl ⟨slot_im r e, s_call hr c s sl M ED Q r q⟩)
  · rename_i e; exact .inr (.inr (.inl ⟨slot_im r e, s_call hr c s sl M ED Q r q⟩))
  · rename_i e; exact .inr (.inr (.inr ⟨slot_im r e, s_call hr c s sl M ED Q r q⟩))
  · exact q.elim
end
end F

/-! OD31: tuple * n, n from 0 on. -/
namespace L2
open PySem PySem.Spec PyProof.Rows
theorem tuple_mul1 (l : Addr) (items : Array Value) (n : Nat) (sl : Array (Option Value)) (dd : Option Addr) (u : Tok) :
    Meets (Builtin.«tuple.__mul__» ⟨[.ref l, .int 1 u], []⟩) (fun _ R s => s.heap.get? l = some { cls := .type "tuple", dict := dd, data := .seq items n, slots := sl } ∧ R (.ok (.ret (Value.ref l))) s) :=
  .of_wp fun prog w A R s h => by
    obtain ⟨hp, g, d, tk, os⟩ := s
    obtain ⟨hl, h⟩ := h
    have f1 := AutoSeq1.idx_int
    have hT : Shared.TypeIs ⟨hp, g, d, tk, os⟩ (.ref l) "tuple" := ⟨_, hl, rfl⟩
    wp_walk using wpAny_loadPart' hl
    repeat (first
      | (refine wpAny_ite_true (decide_eq_true (by simp)) ?_; wp_walk using wpAny_loadPart' hl)
      | (refine wpAny_ite_false (decide_eq_false (by decide)) ?_; wp_walk using wpAny_loadPart' hl))
    all_goals first | exact ⟨_, rfl, h⟩ | exact h
theorem tuple_mul0 (l : Addr) (items : Array Value) (n : Nat) (sl : Array (Option Value)) (dd : Option Addr) (u : Tok) (hi : items.isEmpty = false) :
    Meets (Builtin.«tuple.__mul__» ⟨[.ref l, .int 0 u], []⟩) (fun _ R s => s.heap.get? l = some { cls := .type "tuple", dict := dd, data := .seq items n, slots := sl } ∧
      R (.ok (.ret (Value.ref s.heap.objs.size))) { s with heap := s.heap.push { cls := Value.type "tuple", data := Data.seq #[] }, toks := s.toks }) :=
  .of_wp fun prog w A R s h => by
    obtain ⟨hp, g, d, tk, os⟩ := s
    obtain ⟨hl, h⟩ := h
    have f1 := AutoSeq1.idx_int
    have c1 : (items.isEmpty || ((0 : Int) == 1)) = false := by rw [hi]; rfl
    wp_walk using wpAny_loadPart' hl
    repeat (first
      | (refine wpAny_ite_false (decide_eq_false (by rw [c1]; exact Bool.false_ne_true)) ?_; wp_walk using wpAny_loadPart' hl)
      | (refine wpAny_ite_true (decide_eq_true (by simp)) ?_; wp_walk using wpAny_loadPart' hl)
      | (refine wpAny_ite_false (decide_eq_false (by decide)) ?_; wp_walk using wpAny_loadPart' hl))
    all_goals first | exact ⟨_, rfl, h⟩ | exact h
def rRepA (K : PySem.W.Frag) : R2 := fun x y H Q => ∃ l k xs, x = .ref l ∧ y = .int k ∧ SqT K H l xs ∧ xs ≠ [] ∧ 0 ≤ k ∧ k ≤ 1000 ∧ xs.length ≤ 1000 ∧ (k = 1 → Q (.ref l) H) ∧ (k ≠ 1 → ∀ p, H p = none → Q (.ref p) (upd H p (.tup (List.replicate k.toNat xs).flatten)))
section
variable {X : Cx}
theorem op_repA : OpR X (binaryOp .Mult) (rRepA X.K) := by
  intro pins s σ H x y v u Q I rx ry h
  obtain ⟨l, k, xs, ex, ey, hT, hne, h1, h2, hz, q1, q2⟩ := h
  by_cases hk2 : 2 ≤ k
  · exact op_repT pins s σ H x y v u Q I rx ry ⟨l, k, xs, ex, ey, hT, hne, hk2, h2, hz, q2 (by omega)⟩
  · subst ex ey
    cases rx
    obtain ⟨t, rfl⟩ := ry
    obtain ⟨its, r, ⟨⟨cls, dd, data, sl⟩, ho, hc, n, hd⟩, hs⟩ := I.tuple hT
    simp only at hc hd
    subst hc hd
    have hle : its.length = xs.length := r.length.symm
    have hn : its ≠ [] := fun e => hne (by
      rw [e] at hle
      exact List.eq_nil_of_length_eq_zero hle.symm)
    have hi : its.toArray.isEmpty = false := by
      cases its with
      | nil => exact absurd rfl hn
      | cons a b => rfl
    by_cases hk1 : k = 1
    · subst hk1
      refine wpAny_binaryOp_repeat_ref (T := "tuple") (U := "int") (by decide) ⟨_, ho, rfl⟩ (fun s' => typeIs_int s' 1 t) noFill_tuple_mul F.fills_int_mul F.slot_int_rmul repeat_tuple F.slot_int_index.lookup
        (call_meets F.slot_int_rmul (typeIs_int s 1 t) F.entry_int_rmul (F.args_int_rmul_2 _ _) (int_rmul_tuple 1 t l its.toArray n dd sl)
          ⟨ho, rfl, ⟨_, ho, rfl⟩, call_meets F.slot_tuple_mul ⟨_, ho, rfl⟩ F.entry_tuple_mul (F.args_tuple_mul_2 _ _) (tuple_mul1 l its.toArray n sl dd t) ⟨ho, ?_⟩⟩)
      exact ⟨.ref l, H, I, rfl, q1 rfl⟩
    · have hk0 : k = 0 := by omega
      subst hk0
      refine wpAny_binaryOp_repeat_ref (T := "tuple") (U := "int") (by decide) ⟨_, ho, rfl⟩ (fun s' => typeIs_int s' 0 t) noFill_tuple_mul F.fills_int_mul F.slot_int_rmul repeat_tuple F.slot_int_index.lookup
        (call_meets F.slot_int_rmul (typeIs_int s 0 t) F.entry_int_rmul (F.args_int_rmul_2 _ _) (int_rmul_tuple 0 t l its.toArray n dd sl)
          ⟨ho, rfl, ⟨_, ho, rfl⟩, call_meets F.slot_tuple_mul ⟨_, ho, rfl⟩ F.entry_tuple_mul (F.args_tuple_mul_2 _ _) (tuple_mul0 l its.toArray n sl dd t hi) ⟨ho, ?_⟩⟩)
      refine ⟨.ref s.heap.objs.size, _, I.laid (t' := s.toks) (o := .tup (List.replicate (0 : Int).toNat xs).flatten) (fun b ob q => Heap.get?_push_of_some _ q) (Nat.le_refl _) ?_, rfl, q2 (by decide) _ (I.hok.fresh (Nat.le_refl _))⟩
      exact ⟨Nat.zero_le _, _, .nil, IsTup.new _ _⟩
end
end L2
namespace OD
open PySem PySem.Spec L2
def mulTD (x y : D) (M : Mem) (Q : DK) : Prop := ∃ (xs : List D) (k : Int), x = .tup xs ∧ y = .int k ∧ xs ≠ [] ∧ 0 ≤ k ∧ k ≤ 1000 ∧ xs.length ≤ 1000 ∧ Q (.tup (List.replicate k.toNat xs).flatten) M
theorem sv_mulT {K : PySem.W.Frag} : SimV2 K (rRepA K) mulTD := by
  intro S0 M H x y dx dy Q QD m rx ry h l
  obtain ⟨xs, k, rfl, rfl, h1, h2, h3, h4, q⟩ := h
  obtain ⟨p, vs, rfl, t1, r1⟩ := rx.tup_inv
  cases ry.int_inv
  refine ⟨p, k, vs, rfl, rfl, t1, fun e => h1 ?_, h2, h3, by rw [r1.length]; exact h4, fun e => ?_, fun _ => new_tup m (r1.rep _) q l⟩
  · have := r1.length
    rw [e] at this
    exact List.eq_nil_of_length_eq_zero this.symm
  · subst e
    cases rx with
    | imm r => exact l.now m r (by simpa using q)
end OD

/-! F28: tuple * n. -/
namespace F
open PySem PySem.Spec L2 OD
@[simp] noncomputable def mulTF : D → D → Option D
  | .tup xs, .int k => cif ((xs ≠ [] ∧ xs.length ≤ 1000) ∧ (0 ≤ k ∧ k ≤ 1000)) (some (.tup (List.replicate k.toNat xs).flatten)) none
  | _, _ => none
theorem mulTF_ok : OpF mulTD mulTF := by
  intro x y z M Q h q
  cases x <;> cases y <;> first
    | (cases h; done)
    | (obtain ⟨hz, rfl⟩ := cif_inv h; exact ⟨_, _, rfl, rfl, hz.1.1, hz.2.1, hz.2.2, hz.1.2, q⟩)
end F


/-! OD32: a dict that a call has just made is locked where it lies, and walked. -/
namespace OD
open PySem PySem.Spec L2
section
variable {X : Cx} {E : L2.St → XK} {K : PySem.W.Frag}
/-- what t tells is locked from then on -/
def tLk (t : TE) : TE := fun σ H Q => t σ H fun v H1 => ∃ d u, v = .ref d ∧ H1 d = some u ∧ Mut (some u) ∧ ∀ od, Q (.ref d) (upd H1 d (.frz od u))
theorem pe_lk {e : Expr} {t : TE} (h : PE X e t) : PE X e (tLk t) := by
  refine ⟨fun pins s σ H Q I hw => ?_⟩
  refine thn (h.run pins s σ _ _ I hw) fun v s1 ⟨x, H1, I1, r, d, u, ex, hd, mu, q⟩ => ?_
  subst ex
  obtain ⟨od, I2⟩ := I1.lock hd mu
  exact ⟨_, _, I2, r, q od⟩
def dLk (da : DE) : DE := fun sl M ED Q => da sl M ED fun x M1 => ∃ (p : Addr) (k : Nat) (kvs : List (Key × D)), x = .ref p ∧ M1[k]? = some (p, .dic kvs) ∧ ∀ (od : Obj) (ws : List (Key × V)), Q (.ref p) (M1.set k (p, .lok od ws kvs))
theorem sim_lk {t : TE} {td : DE} (s : OD.SimE K E t td) : OD.SimE K E (tLk t) (dLk td) := by
  intro S0 sl M σ H Q QD ED ok xl h l
  refine s S0 sl M σ H _ _ ED ok xl h fun d M1 v H1 m1 x1 r1 q1 => ?_
  obtain ⟨p, k, kvs, rfl, e, q⟩ := q1
  cases r1
  obtain ⟨ws, h1, h2⟩ := m1.at_ _ (List.mem_of_getElem? e)
  refine ⟨p, .dK ws, rfl, h1, True.intro, fun od => ?_⟩
  obtain ⟨m2, x2⟩ := lock_in (od := od) m1 e h2
  exact l _ _ _ _ m2 (x1.trans x2) (.ref p) (q od ws)
theorem de_lk {e : Expr} {td : DE} (h : DEx X E e td) : DEx X E e (dLk td) := by
  obtain ⟨t, p, s⟩ := h
  exact ⟨_, pe_lk p, sim_lk s⟩
end
end OD

/-! F29: for x in f(..), f telling a dict made anew. -/
namespace F
open PySem PySem.Spec L2 OD
section
variable {np : Nat} {s1 : FS} {t1 : DS} {fa : FE} {da : DE}
theorem lkT_wf {lk : Lk} {e0 : Addr × N} : ∀ a e, lk.tg a = some e → e ∈ e0 :: lk.fr := fun a e h => List.mem_cons_of_mem _ (lk.wf a e h)
/-- one more dict walked, that no slot holds -/
def Cz.lkT (c : Cz) (e0 : Addr × N) : Cz := { c with lk := ⟨e0 :: c.lk.fr, c.lk.tg, lkT_wf⟩ }
theorem Ent.lkT {c : Cz} {e0 : Addr × N} {sv : Sv} {d : D} {E : Mem} : Ent (c.lkT e0).lk sv d E ↔ Ent c.lk sv d E := by
  cases sv <;> exact Iff.rfl
theorem RelW.dropT {c : Cz} {e0 : Addr × N} {fs : Sl} {sl : Slots} {M : Mem} {w : Sv} {d : D} (h : RelW (c.lkT e0) fs sl M w d) : RelW c fs sl M w d := by
  obtain ⟨E, h⟩ := h
  refine ⟨E, h.nd, h.len, Ent.lkT.mp h.tmp, fun i sv e => ?_, h.sub, h.ndE, h.dis, h.pin, h.frs, h.pre, fun e he => h.lks e (List.mem_cons_of_mem _ he), fun e he => h.lkd e (List.mem_cons_of_mem _ he)⟩
  obtain ⟨d, h1, h2⟩ := h.slt i sv e
  exact ⟨d, h1, Ent.lkT.mp h2⟩
theorem RelW.lockT {c : Cz} {fs : Sl} {sl : Slots} {M : Mem} {kvs : List (Key × D)} {x : D} (r : RelW c fs sl M (.dic kvs) x) : ∃ p k, x = .ref p ∧ M[k]? = some (p, .dic kvs) ∧
    ∀ od ws, Rel (c.lkT (p, .lok od ws kvs)) fs sl (M.set k (p, .lok od ws kvs)) := by
  obtain ⟨E, r⟩ := r
  obtain ⟨p, rfl, ep⟩ := r.tmp
  have kE : keys (E 0) = [p] := by rw [ep]; rfl
  obtain ⟨k, hk⟩ := List.getElem?_of_mem (r.sub 0 (p, .dic kvs) (by rw [ep]; simp))
  refine ⟨p, k, rfl, hk, fun od ws => ?_⟩
  have hkey : keys (M.set k (p, .lok od ws kvs)) = keys M := keys_set hk
  have keep : ∀ e2 ∈ M, e2.1 ≠ p → e2 ∈ M.set k (p, .lok od ws kvs) := fun e2 hm np => by
    obtain ⟨t, ht⟩ := List.getElem?_of_mem hm
    have hne : k ≠ t := fun w => by rw [← w, hk] at ht; cases ht; exact np rfl
    exact List.mem_of_getElem? (by rw [List.getElem?_set_ne hne]; exact ht)
  have e0 : ∀ j, (if j = 0 then [] else E j) = [] ∨ (j ≠ 0 ∧ (if j = 0 then [] else E j) = E j) := fun j => by
    by_cases z : j = 0
    · exact .inl (by rw [if_pos z])
    · exact .inr ⟨z, by rw [if_neg z]⟩
  refine ⟨fun j => if j = 0 then [] else E j, by rw [hkey]; exact r.nd, r.len, ⟨rfl, rfl⟩, fun j sv e2 => ?_, fun j e2 he => ?_, fun j => ?_, fun j k2 a n ha hb => ?_, fun j hj => ?_, fun j a hj ha => ?_, ?_, fun e2 he => ?_, fun e2 he j hj => ?_⟩
  · obtain ⟨d', g1, g2⟩ := r.slt j sv e2
    exact ⟨d', g1, by rw [if_neg (Nat.succ_ne_zero j)]; exact Ent.lkT.mpr g2⟩
  · rcases e0 j with z | ⟨z1, z⟩ <;> rw [z] at he
    · cases he
    · exact keep e2 (r.sub j e2 he) fun w => r.dis j 0 p z1 (List.mem_map.mpr ⟨e2, he, w⟩) (by rw [kE]; simp)
  · rcases e0 j with z | ⟨z1, z⟩ <;> rw [z]
    · exact List.nodup_nil
    · exact r.ndE j
  · rcases e0 j with z | ⟨z1, z⟩ <;> rw [z] at ha
    · cases ha
    · rcases e0 k2 with y | ⟨y1, y⟩ <;> rw [y] at hb
      · cases hb
      · exact r.dis j k2 a n ha hb
  · rcases e0 (j + 1) with z | ⟨z1, z⟩
    · exact .inl z
    · rw [z]; exact r.pin j hj
  · rcases e0 j with z | ⟨z1, z⟩ <;> rw [z] at ha
    · cases ha
    · exact r.frs j a hj ha
  · have hp := r.pre
    unfold Pre at hp ⊢
    rw [keys_take, hkey, ← keys_take]
    exact hp
  · rcases List.mem_cons.mp he with rfl | he
    · exact List.mem_of_getElem? (List.getElem?_set_self (List.getElem?_eq_some_iff.mp hk).1)
    · exact keep e2 (r.lks e2 he) fun w => r.lkd e2 he 0 (by rw [kE, w]; simp)
  · rcases e0 j with z | ⟨z1, z⟩ <;> rw [z] at hj
    · cases hj
    · rcases List.mem_cons.mp he with rfl | he
      · exact r.dis j 0 p z1 hj (by rw [kE]; simp)
      · exact r.lkd e2 he j hj
/-- for x in a dict made anew -/
@[simp] def fForT (fa : FE) (tg : FG) (body : FS) (s : Sl) : O := (fa s).thn fun w s => match w with
  | .dic kvs => forL tg body (keysL kvs) s
  | _ => .bad
theorem s_forT {tg : FG} {dg : DG} {vs : List Nat} (ha : SimE fa da) (hg : SimG vs tg dg) (hb : SimS np s1 t1) : SimS np (fForT fa tg s1) (dFor (diKeysN (dLk da)) dg t1) := by
  intro c hc Dd fs sl M r q
  refine ha c fs sl M _ _ r ?_
  unfold fForT at q
  cases ea : fa fs with
  | bad => rw [ea] at q; exact q.elim
  | ex cl f s => rw [ea] at q; exact fun M r => q sl M r
  | ok w s =>
    rw [ea] at q
    cases w with
    | dic kvs =>
      intro x M1 r1
      obtain ⟨p, k, rfl, h2, h3⟩ := r1.lockT
      refine ⟨p, k, kvs, rfl, h2, fun od ws => ?_⟩
      refine ⟨p, k, od, ws, kvs, rfl, List.getElem?_set_self (List.getElem?_eq_some_iff.mp h2).1, ?_⟩
      refine for_core (np := np) (c := c.lkT (p, .lok od ws kvs)) hg hb hc (itKeys_ok (List.mem_cons_self ..)) (h3 od ws) ?_
      replace q : PoS c Dd (forL tg s1 (keysL kvs) s) := q
      cases eo : forL tg s1 (keysL kvs) s with
      | nx s' => rw [eo] at q; exact fun sl' M' r' => q sl' M' r'.dropT
      | rt w s' => rw [eo] at q; exact fun d' sl' M' r' => q d' sl' M' r'.dropT
      | bk s' => rw [eo] at q; exact fun sl' M' r' => q sl' M' r'.dropT
      | ct s' => rw [eo] at q; exact fun sl' M' r' => q sl' M' r'.dropT
      | ex cl f s' => rw [eo] at q; exact fun sl' M' r' => q sl' M' r'.dropT
      | bad => rw [eo] at q; exact q.elim
    | _ => exact q.elim
end
end F

/-! OD33: a frozen dict that a call tells is locked while a loop walks it (kit-level rules; the D-level twins are still to come). -/
namespace OD
open PySem PySem.Spec L2
section
variable {X : Cx} {E : L2.St → XK} {K : PySem.W.Frag}
/-- d was not locked by one that called us -/
def NF (X : Cx) (d : Addr) : Prop := ∀ o' u', X.H_0 d ≠ some (.frz o' u')
def unlH (X : Cx) (P : Hp → Prop) (H : Hp) : Prop := P H ∨ ∃ d od u, NF X d ∧ H d = some (.frz od u) ∧ P (upd H d u)
/-- at its ends t may undo one lock -/
def tUnl (X : Cx) (t : TS) : TS := fun D σ H => t ⟨fun σ' => unlH X (D.nx σ'), fun v => unlH X (D.rt v), fun σ' => unlH X (D.bk σ'), fun σ' => unlH X (D.ct σ')⟩ σ H
theorem ps_unl {st : Stmt} {t : TS} (h : PS X st t) : PS X st (tUnl X t) := by
  refine ⟨fun pins s σ H D I hw => ?_⟩
  refine thn (h.run pins s σ _ _ I hw) fun f s1 q => ?_
  cases f with
  | next =>
    obtain ⟨σ', H', I2, q | ⟨d, od, u, n, e, q⟩⟩ := q
    · exact ⟨σ', _, I2, q⟩
    · exact ⟨σ', _, I2.unlock e n, q⟩
  | brk =>
    obtain ⟨σ', H', I2, q | ⟨d, od, u, n, e, q⟩⟩ := q
    · exact ⟨σ', _, I2, q⟩
    · exact ⟨σ', _, I2.unlock e n, q⟩
  | cont =>
    obtain ⟨σ', H', I2, q | ⟨d, od, u, n, e, q⟩⟩ := q
    · exact ⟨σ', _, I2, q⟩
    · exact ⟨σ', _, I2.unlock e n, q⟩
  | ret v =>
    obtain ⟨x, σ', H', I2, r, q | ⟨d, od, u, n, e, q⟩⟩ := q
    · exact ⟨x, σ', _, I2, r, q⟩
    · exact ⟨x, σ', _, I2.unlock e n, r, q⟩
/-- a dict that t tells is locked from then on, if it is not yet -/
def tLkD (X : Cx) (t : TE) : TE := fun σ H Q => t σ H fun v H1 => ∃ d kvs, v = .ref d ∧ ((∃ o, H1 d = some (.frz o (.dK kvs)) ∧ Q (.ref d) H1) ∨ (H1 d = some (.dK kvs) ∧ ∀ od, NF X d → Q (.ref d) (upd H1 d (.frz od (.dK kvs)))))
theorem pe_lkD {e : Expr} {t : TE} (h : PE X e t) : PE X e (tLkD X t) := by
  refine ⟨fun pins s σ H Q I hw => ?_⟩
  refine thn (h.run pins s σ _ _ I hw) fun v s1 ⟨x, H1, I1, r, d, kvs, ex, q⟩ => ?_
  subst ex
  rcases q with ⟨o, hd, q⟩ | ⟨hd, q⟩
  · exact ⟨_, _, I1, r, q⟩
  · obtain ⟨od, I2⟩ := I1.lock hd True.intro
    exact ⟨_, _, I2, r, q od (I1.nofrz hd True.intro)⟩
mutual
theorem Rep.frzIn {S : Mark} {H : Hp} {a : Addr} {od : Obj} {ws : List (Key × V)} (h : H a = some (.dK ws)) : ∀ {v : V} {d : D}, Rep K S H v d → Rep K S (upd H a (.frz od (.dK ws))) v d
  | _, _, .non => .non
  | _, _, .bl b => .bl b
  | _, _, .int i => .int i
  | _, _, .str x => .str x
  | _, _, .ref a => .ref a
  | _, _, .ty n => .ty n
  | _, _, .cls a => .cls a
  | _, _, .scr q => .scr (by
      rcases q with ⟨h1, h2 | ⟨o, h2⟩⟩ | q
      · exact .inl ⟨h1, .inl (by rw [upd_ne (fun z => by rw [z, h] at h2; cases h2)]; exact h2)⟩
      · exact .inl ⟨h1, .inr ⟨o, by rw [upd_ne (fun z => by rw [z, h] at h2; cases h2)]; exact h2⟩⟩
      · exact .inr q)
  | _, _, .tup q r => .tup (by
      rcases q with ⟨h1, h2⟩ | q
      · exact .inl ⟨h1, by rw [upd_ne (fun z => by rw [z, h] at h2; cases h2)]; exact h2⟩
      · exact .inr q) (Reps.frzIn h r)
  | _, _, .lst n q r => .lst n (by rw [upd_ne (fun z => by rw [z, h] at q; cases q)]; exact q) (Reps.frzIn h r)
  | _, _, .dic (a := b) n q r => .dic n (by
      by_cases z : b = a
      · subst z
        rcases q with q | ⟨o, q⟩
        · rw [h] at q; cases q; exact .inr ⟨od, upd_same⟩
        · rw [h] at q; cases q
      · rcases q with q | ⟨o, q⟩
        · exact .inl (by rw [upd_ne z]; exact q)
        · exact .inr ⟨o, by rw [upd_ne z]; exact q⟩) (RepsK.frzIn h r)
  | _, _, .obj n q r => .obj n (by rw [upd_ne (fun z => by rw [z, h] at q; cases q)]; exact q) (RepsF.frzIn h r)
theorem Reps.frzIn {S : Mark} {H : Hp} {a : Addr} {od : Obj} {ws : List (Key × V)} (h : H a = some (.dK ws)) : ∀ {v : List V} {d : List D}, Reps K S H v d → Reps K S (upd H a (.frz od (.dK ws))) v d
  | _, _, .nil => .nil
  | _, _, .cons r q => .cons (Rep.frzIn h r) (Reps.frzIn h q)
theorem RepsK.frzIn {S : Mark} {H : Hp} {a : Addr} {od : Obj} {ws : List (Key × V)} (h : H a = some (.dK ws)) : ∀ {v : List (Key × V)} {d : List (Key × D)}, RepsK K S H v d → RepsK K S (upd H a (.frz od (.dK ws))) v d
  | _, _, .nil => .nil
  | _, _, .cons r q => .cons (Rep.frzIn h r) (RepsK.frzIn h q)
theorem RepsF.frzIn {S : Mark} {H : Hp} {a : Addr} {od : Obj} {ws : List (Key × V)} (h : H a = some (.dK ws)) : ∀ {v : List (Str × V)} {d : List (Str × D)}, RepsF K S H v d → RepsF K S (upd H a (.frz od (.dK ws))) v d
  | _, _, .nil => .nil
  | _, _, .cons r q => .cons (Rep.frzIn h r) (RepsF.frzIn h q)
end
end
end OD

/-! OD34: for x in e, e telling a frozen dict. -/
namespace OD
open PySem PySem.Spec L2
section
variable {X : Cx} {E : L2.St → XK} {K : PySem.W.Frag}
mutual
theorem Rep.frzOut {S : Mark} {H : Hp} {a : Addr} {od : Obj} {ws : List (Key × V)} (h : H a = some (.frz od (.dK ws))) : ∀ {v : V} {d : D}, Rep K S H v d → Rep K S (upd H a (.dK ws)) v d
  | _, _, .non => .non
  | _, _, .bl b => .bl b
  | _, _, .int i => .int i
  | _, _, .str x => .str x
  | _, _, .ref a => .ref a
  | _, _, .ty n => .ty n
  | _, _, .cls a => .cls a
  | _, _, .scr q => .scr (by
      rcases q with ⟨h1, h2 | ⟨o, h2⟩⟩ | q
      · exact .inl ⟨h1, .inl (by rw [upd_ne (fun z => by rw [z, h] at h2; cases h2)]; exact h2)⟩
      · exact .inl ⟨h1, .inr ⟨o, by rw [upd_ne (fun z => by rw [z, h] at h2; cases h2)]; exact h2⟩⟩
      · exact .inr q)
  | _, _, .tup q r => .tup (by
      rcases q with ⟨h1, h2⟩ | q
      · exact .inl ⟨h1, by rw [upd_ne (fun z => by rw [z, h] at h2; cases h2)]; exact h2⟩
      · exact .inr q) (Reps.frzOut h r)
  | _, _, .lst n q r => .lst n (by rw [upd_ne (fun z => by rw [z, h] at q; cases q)]; exact q) (Reps.frzOut h r)
  | _, _, .dic (a := b) n q r => .dic n (by
      by_cases z : b = a
      · subst z
        rcases q with q | ⟨o, q⟩
        · rw [h] at q; cases q
        · rw [h] at q; cases q; exact .inl upd_same
      · rcases q with q | ⟨o, q⟩
        · exact .inl (by rw [upd_ne z]; exact q)
        · exact .inr ⟨o, by rw [upd_ne z]; exact q⟩) (RepsK.frzOut h r)
  | _, _, .obj n q r => .obj n (by rw [upd_ne (fun z => by rw [z, h] at q; cases q)]; exact q) (RepsF.frzOut h r)
theorem Reps.frzOut {S : Mark} {H : Hp} {a : Addr} {od : Obj} {ws : List (Key × V)} (h : H a = some (.frz od (.dK ws))) : ∀ {v : List V} {d : List D}, Reps K S H v d → Reps K S (upd H a (.dK ws)) v d
  | _, _, .nil => .nil
  | _, _, .cons r q => .cons (Rep.frzOut h r) (Reps.frzOut h q)
theorem RepsK.frzOut {S : Mark} {H : Hp} {a : Addr} {od : Obj} {ws : List (Key × V)} (h : H a = some (.frz od (.dK ws))) : ∀ {v : List (Key × V)} {d : List (Key × D)}, RepsK K S H v d → RepsK K S (upd H a (.dK ws)) v d
  | _, _, .nil => .nil
  | _, _, .cons r q => .cons (Rep.frzOut h r) (RepsK.frzOut h q)
theorem RepsF.frzOut {S : Mark} {H : Hp} {a : Addr} {od : Obj} {ws : List (Key × V)} (h : H a = some (.frz od (.dK ws))) : ∀ {v : List (Str × V)} {d : List (Str × D)}, RepsF K S H v d → RepsF K S (upd H a (.dK ws)) v d
  | _, _, .nil => .nil
  | _, _, .cons r q => .cons (Rep.frzOut h r) (RepsF.frzOut h q)
end
theorem MemOk.swap {S0 : Mark} {M : Mem} {H : Hp} {d : Addr} {o : HO} (n : ¬ SM S0 M d) (r : ∀ {v : List V} {x : List D}, Reps K (SM S0 M) H v x → Reps K (SM S0 M) (upd H d o) v x)
    (rk : ∀ {v : List (Key × V)} {x : List (Key × D)}, RepsK K (SM S0 M) H v x → RepsK K (SM S0 M) (upd H d o) v x) (rf : ∀ {v : List (Str × V)} {x : List (Str × D)}, RepsF K (SM S0 M) H v x → RepsF K (SM S0 M) (upd H d o) v x)
    (m : MemOk K S0 M H) : MemOk K S0 M (upd H d o) := by
  refine ⟨m.nd, fun e he => ?_, fun a ha => ?_, m.dis⟩
  · have q := m.at_ e he
    have ne : e.1 ≠ d := fun z => n (.inr (z ▸ List.mem_map.mpr ⟨e, he, rfl⟩))
    obtain ⟨a, nn⟩ := e
    cases nn with
    | lst ds => obtain ⟨vs, h1, h2⟩ := q; exact ⟨vs, by rw [upd_ne ne]; exact h1, r h2⟩
    | dic ds => obtain ⟨vs, h1, h2⟩ := q; exact ⟨vs, by rw [upd_ne ne]; exact h1, rk h2⟩
    | lok od ws kvs => obtain ⟨h1, h2⟩ := q; exact ⟨by rw [upd_ne ne]; exact h1, rk h2⟩
    | ins C dx fs => obtain ⟨vs, h1, h2⟩ := q; exact ⟨vs, by rw [upd_ne ne]; exact h1, rf h2⟩
    | dct ds =>
      obtain ⟨vs, h1, h2⟩ := q
      refine ⟨vs, by rw [upd_ne ne]; exact h1, Paired.mapP h2 fun _ _ z => ⟨z.1, ?_⟩⟩
      have := r (.cons z.2 .nil)
      cases this with
      | cons a b => exact a
  · by_cases z : a = d
    · subst z; rw [upd_same]; exact fun z => by cases z
    · rw [upd_ne z]; exact m.trk a ha
theorem sim_for {wi : TI} {di : DI} {g : TG} {dg : DG} {t : TS} {td : DS} (s1 : SimI K E wi di) (s2 : SimG K g dg) (s3 : OD.SimS K E t td) : OD.SimS K E (tFor wi g t) (dFor di dg td) := by
  refine fun S0 sl M σ H Dd Dn k l h => s1 S0 sl M σ H _ _ _ k (l.xl k) h fun it M1 J H1 m1 x1 ir q => ?_
  obtain ⟨W, w0, wg, wt, we⟩ := q
  refine ⟨fun i m σ' H' => m = it.n - i ∧ i ≤ it.n ∧ ∃ sl' M', Ok K S0 sl' M' σ' H' ∧ Ext M1 H1 M' H' ∧ W i sl' M', ⟨it.n, by simp, Nat.zero_le _, sl, M1, k.ext m1 x1, .refl _ _, w0⟩, ?_⟩
  rintro i m σ' H' ⟨rfl, hi, sl', M', k', x', w⟩
  have g := ir S0 M' H' (.refl _ _) k'.mem x' (wg i sl' M' hi w)
  by_cases hlt : i < it.n
  · obtain ⟨g1, g2⟩ := g.1 i hlt
    refine .inr ⟨g1, fun σ2 H2 => ∃ sl2 M2, Ok K S0 sl2 M2 σ2 H2 ∧ Ext M1 H1 M2 H2 ∧ W (i + 1) sl2 M2, fun σ2 H2 h2 => ⟨it.n - (i + 1), by omega, rfl, hlt, h2⟩, fun y H'' hy => ?_⟩
    obtain ⟨m2, x2, r2⟩ := g2 y H'' hy
    have l2 := l.ext (x1.trans (x'.trans x2))
    refine s2 S0 sl' M' σ' H'' y (it.at_ i) _ _ (k'.ext m2 x2) r2 (wt i sl' M' hlt w) fun sl3 M3 σ3 H3 k3 x3 h3 => ?_
    have l3 := l2.ext x3
    have xx := (x'.trans x2).trans x3
    exact s3 S0 sl3 M3 σ3 H3 { Dd with nx := W (i + 1), ct := W (i + 1), bk := Dd.nx } _ k3 ⟨fun sl4 M4 σ4 H4 k4 x4 h4 => ⟨sl4, M4, k4, xx.trans x4, h4⟩, l3.rt, fun sl4 M4 σ4 H4 k4 x4 h4 => l3.nx sl4 M4 σ4 H4 k4 x4 h4, fun sl4 M4 σ4 H4 k4 x4 h4 => ⟨sl4, M4, k4, xx.trans x4, h4⟩, l3.ex⟩ h3
  · have e : i = it.n := by omega
    subst e
    exact .inl ⟨g.2, l.nx sl' M' σ' H' k' (x1.trans x') (we sl' M' w)⟩
end
end OD

/-! OD35: for x in e, e telling a frozen dict: the rule. -/
namespace OD
open PySem PySem.Spec L2
section
variable {X : Cx} {E : L2.St → XK} {K : PySem.W.Frag}
def diOne (M1 : Mem) (kvs : List (Key × D)) : DI := fun _ M _ RD => M = M1 ∧ RD (itKeys kvs fun _ => True) M
def dForD (da : DE) (dg : DG) (tb : DS) : DS := fun Dd sl M => da sl M (Dd.ex sl) fun x M1 => ∃ kvs, x = .dic kvs ∧ dFor (diOne M1 kvs) dg tb { Dd with ex := fun _ => NoX } sl M1
theorem one_ok {a : Addr} {od : Obj} {ws : List (Key × V)} {kvs : List (Key × D)} {M1 : Mem} {Hl : Hp} (hl : Hl a = some (.frz od (.dK ws))) (nM : a ∉ keys M1) (hn : ws.length = kvs.length)
    (hk : ∀ (i : Nat) (h : i < kvs.length) kk vv, ws[i]? = some (kk, vv) → kk = (kvs[i]).1) : SimI K E (fun σ H R => H = Hl → R (Itk a od ws) H) (diOne M1 kvs) := by
  intro S0 sl M σ H R RD ED k xl hd l
  obtain ⟨rfl, hd⟩ := hd
  intro eH
  subst eH
  refine l _ M _ H k.mem (.refl _ _) (fun S1 M' H' mk m x _ => ?_) hd
  have g1 : H' a = some (.frz od (.dK ws)) := x.keep a _ hl nM
  refine ⟨fun i hi => ?_, g1, by rw [hn]; exact Nat.le_refl _⟩
  have hi' : i < kvs.length := hi
  refine ⟨⟨g1, by rw [hn]; exact hi'⟩, fun y H'' hy => ?_⟩
  obtain ⟨rfl, kk, vv, e1, rfl⟩ := hy
  refine ⟨m, .refl _ _, ?_⟩
  show Rep K _ _ _ (((kvs[i]?).map fun kv => keyV kv.1).getD .non)
  rw [List.getElem?_eq_getElem hi']
  show Rep _ _ _ _ (keyV (kvs[i]).1)
  rw [← hk i hi' kk vv e1]
  exact rep_key kk
theorem ds_forD {tg e : Expr} {sts : List Stmt} {pos : Pos} {da : DE} {dg : DG} {td : DS} (hp : PassesOwn (model X.prog X.w) X.A X.env X.xe) (hc : X.calm = true) (he : DEx X E e da) (hg : DGx X tg dg) (hb : DBx X E sts td) (hs : ∀ x, foldedSetIterable e X.env x = pure x := by intro _; rfl) :
    DSx X E (.For tg e sts [] pos) (dForD da dg td) := by
  obtain ⟨t, p, s⟩ := he
  obtain ⟨g, p2, s2⟩ := hg
  obtain ⟨tb, p3, s3⟩ := hb
  refine ⟨_, ps_unl (ps_for hp hc (pi_keys (pe_lkD p)) p2 p3 hs), fun S0 sl M σ H Dd Dn ok l h => ?_⟩
  refine s S0 sl M σ H _ _ _ ok (l.xl ok) h fun x M1 v H1 m1 x1 r1 q1 => ?_
  obtain ⟨kvs, rfl, q⟩ := q1
  cases r1 with
  | @dic a ws _ nS rd reps =>
    have nM : a ∉ keys M1 := fun z => nS (.inr z)
    have hn : ws.length = kvs.length := reps.length
    have hk : ∀ (i : Nat) (h : i < kvs.length) kk vv, ws[i]? = some (kk, vv) → kk = (kvs[i]).1 := fun i h kk vv e1 => by
      have e2 := congrArg (fun z => z[i]?) (RepsK.at_ reps)
      simp only [List.getElem?_map] at e2
      rw [e1, List.getElem?_eq_getElem h] at e2
      simpa using e2
    rcases rd with hd | ⟨o, hd⟩
    · refine ⟨a, ws, rfl, .inr ⟨hd, fun od nf => ⟨a, od, rfl, .inl ⟨ws, upd_same, ?_⟩⟩⟩⟩
      have k1 := ok.ext m1 x1
      have hf : ∀ {M' H'}, Ext M1 (upd H1 a (.frz od (.dK ws))) M' H' → H' a = some (.frz od (.dK ws)) := fun x' => x'.keep a _ upd_same nM
      have nS' : ∀ {M' H'}, Ext M1 (upd H1 a (.frz od (.dK ws))) M' H' → ¬ SM S0 M' a := fun x' z => by
        rcases z with z | z
        · exact nS (.inl z)
        · rcases x'.new a z with z | z
          · exact nM z
          · rw [upd_same] at z; cases z
      have memO : ∀ {M' H'}, Ext M1 (upd H1 a (.frz od (.dK ws))) M' H' → MemOk X.K S0 M' H' → MemOk X.K S0 M' (upd H' a (.dK ws)) := fun x' m' =>
        MemOk.swap (nS' x') (Reps.frzOut (hf x')) (RepsK.frzOut (hf x')) (RepsF.frzOut (hf x')) m'
      have okO : ∀ {sl' M' σ' H'}, Ext M1 (upd H1 a (.frz od (.dK ws))) M' H' → Ok X.K S0 sl' M' σ' H' → Ok X.K S0 sl' M' σ' (upd H' a (.dK ws)) := fun x' k' =>
        ⟨k'.len, fun i d e => let ⟨v, h1, h2⟩ := k'.sl i d e; ⟨v, h1, Rep.frzOut (hf x') h2⟩, memO x' k'.mem⟩
      have exO : ∀ {M' H'}, Ext M1 (upd H1 a (.frz od (.dK ws))) M' H' → Ext M H M' (upd H' a (.dK ws)) := fun {M' H'} x' => x1.trans ⟨fun b o e n => by
          by_cases z : b = a
          · subst z; rw [hd] at e; cases e; exact upd_same
          · rw [upd_ne z]; exact x'.keep b o (by rw [upd_ne z]; exact e) n, fun b hb => by
          rcases x'.new b hb with w | w
          · exact .inl w
          · by_cases z : b = a
            · subst z; rw [upd_same] at w; cases w
            · rw [upd_ne z] at w; exact .inr w, fun b e => by
          by_cases z : b = a
          · subst z; rw [upd_same]; exact fun z => by cases z
          · rw [upd_ne z]; exact x'.trk b (by rw [upd_ne z]; exact e)⟩
      have okl : Ok X.K S0 sl M1 σ (upd H1 a (.frz od (.dK ws))) := ⟨k1.len, fun i d e => let ⟨v, h1, h2⟩ := k1.sl i d e; ⟨v, h1, Rep.frzIn hd h2⟩, MemOk.swap nS (Reps.frzIn hd) (RepsK.frzIn hd) (RepsF.frzIn hd) m1⟩
      exact sim_for (one_ok upd_same nM hn hk) s2 s3 S0 sl M1 σ _ { Dd with ex := fun _ => NoX } _ okl
        ⟨fun sl' M' σ' H' k' x' q' => .inr ⟨a, od, .dK ws, nf, hf x', l.nx sl' M' σ' _ (okO x' k') (exO x') q'⟩,
         fun d M' v H' m' x' r q' => .inr ⟨a, od, .dK ws, nf, hf x', l.rt d M' v _ (memO x' m') (exO x') (Rep.frzOut (hf x') r) q'⟩,
         fun sl' M' σ' H' k' x' q' => .inr ⟨a, od, .dK ws, nf, hf x', l.bk sl' M' σ' _ (okO x' k') (exO x') q'⟩,
         fun sl' M' σ' H' k' x' q' => .inr ⟨a, od, .dK ws, nf, hf x', l.ct sl' M' σ' _ (okO x' k') (exO x') q'⟩, fun _ _ _ _ _ _ => XL.no⟩ q rfl
    · refine ⟨a, ws, rfl, .inl ⟨o, hd, ⟨a, o, rfl, .inl ⟨ws, hd, ?_⟩⟩⟩⟩
      exact sim_for (one_ok hd nM hn hk) s2 s3 S0 sl M1 σ _ { Dd with ex := fun _ => NoX } _ (ok.ext m1 x1)
        ⟨fun sl' M' σ' H' k' x' q' => .inl (l.nx sl' M' σ' _ k' (x1.trans x') q'),
         fun d M' v H' m' x' r q' => .inl (l.rt d M' v _ m' (x1.trans x') r q'),
         fun sl' M' σ' H' k' x' q' => .inl (l.bk sl' M' σ' _ k' (x1.trans x') q'),
         fun sl' M' σ' H' k' x' q' => .inl (l.ct sl' M' σ' _ k' (x1.trans x') q'), fun _ _ _ _ _ _ => XL.no⟩ q rfl
end
end OD
namespace F
open PySem PySem.Spec L2 OD
section
variable {np : Nat} {s1 : FS} {t1 : DS} {fa : FE} {da : DE}
@[simp] def noEx : O → O
  | .ex _ _ _ => .bad
  | o => o
/-- for x in a dict that is data -/
@[simp] def fForD (fa : FE) (tg : FG) (body : FS) (s : Sl) : O := (fa s).thn fun w s => match w with
  | .im (.dic kvs) => noEx (forL tg body (keysL kvs) s)
  | _ => .bad
theorem s_forD {tg : FG} {dg : DG} {vs : List Nat} (ha : SimE fa da) (hg : SimG vs tg dg) (hb : SimS np s1 t1) : SimS np (fForD fa tg s1) (dForD da dg t1) := by
  intro c hc Dd fs sl M r q
  refine ha c fs sl M _ _ r (poE_st q fun w fs1 e q x M1 r1 => ?_)
  split at q
  · rename_i kvs
    obtain rfl := r1.eq
    refine ⟨kvs, rfl, rfl, ?_⟩
    have it : ItOk1 c (itKeys kvs fun _ => True) (keysL kvs) := ⟨by show kvs.length = _; unfold keysL; rw [List.length_map], fun i hi => by
      unfold keysL at hi ⊢
      rw [List.length_map] at hi
      rw [List.getElem_map]
      show ((kvs[i]?).map fun kv => keyV kv.1).getD .non = _
      rw [List.getElem?_eq_getElem hi]
      rfl, fun _ _ _ _ => True.intro⟩
    refine for_core (np := np) (c := c) (Dd := { Dd with ex := fun _ => NoX }) hg hb hc it (r1.rel) ?_
    · cases eo : forL tg s1 (keysL kvs) fs1 with
      | ex cl f s' => rw [eo] at q; exact q.elim
      | bad => rw [eo] at q; exact q.elim
      | nx s' => rw [eo] at q; exact q
      | rt w s' => rw [eo] at q; exact q
      | bk s' => rw [eo] at q; exact q
      | ct s' => rw [eo] at q; exact q
  · exact q.elim
end
end F

/-! OD36: x != (), where x may be a dict, an object with an own __eq__, a tuple of anything. -/
namespace OD
open PySem PySem.Spec L2 PyProof.Rows
section
open PySem.SeqAt
open PySem.AutoSeq1 (wpAny_loadPart')
open PySem.MeetsSeq PySem.MeetsSeq2 PySem.MeetsSeq3
theorem nf_tuple (K : PySem.W.Frag) (C : Addr) : PySem.W.notFirst K C (.type "tuple") = true := by
  have h : fastBuiltinMro "tuple" = some [.type "tuple", .type "object"] := by kernel_rfl
  have e : PySem.W.subIn K (.type "tuple") (.ref C) = some false := by
    show Option.map (fun x => x.contains (Value.ref C)) (fastBuiltinMro "tuple") = _
    rw [h]
    rfl
  unfold PySem.W.notFirst
  rw [e]
  rfl
theorem dict_ne_declines_tuple (l b : Addr) (o : Obj) (ho : o.ExactDict) (items2 : Array Value) (n2 : Nat) (dd2 : Option Addr) (sl2 : Array (Option Value)) :
    Meets (Builtin.«dict.__ne__» ⟨[.ref l, .ref b], []⟩) (fun _ R s => s.heap.get? l = some o ∧ s.heap.get? b = some { cls := .type "tuple", dict := dd2, data := .seq items2 n2, slots := sl2 } ∧ R (.ok (.ret .notImplemented)) s) :=
  .of_wp fun prog w A R s h => by
    obtain ⟨hp, g, d, tk, os⟩ := s; obtain ⟨hl, hb, h⟩ := h
    obtain ⟨cls, dd, data, sl⟩ := o
    obtain ⟨e1, e2, e3⟩ := ho
    simp only at e1 e2 e3
    subst e1 e2
    have f1 := F.sub_tuple_dict
    have f2 : isSubtype (.type "dict") (.type "dict") = pure true := by rw [isSubtype_type]; kernel_rfl
    wp_walk using wpAny_loadPart' hl, wpAny_loadPart' hb
    exact ⟨_, rfl, h⟩
theorem tuple_ne_declines_dict (l b : Addr) (o : Obj) (ho : o.ExactDict) (items2 : Array Value) (n2 : Nat) (dd2 : Option Addr) (sl2 : Array (Option Value)) :
    Meets (Builtin.«tuple.__ne__» ⟨[.ref b, .ref l], []⟩) (fun _ R s => s.heap.get? l = some o ∧ s.heap.get? b = some { cls := .type "tuple", dict := dd2, data := .seq items2 n2, slots := sl2 } ∧ R (.ok (.ret .notImplemented)) s) :=
  .of_wp fun prog w A R s h => by
    obtain ⟨hp, g, d, tk, os⟩ := s; obtain ⟨hl, hb, h⟩ := h
    obtain ⟨cls, dd, data, sl⟩ := o
    obtain ⟨e1, e2, e3⟩ := ho
    simp only at e1 e2 e3
    subst e1 e2
    have f1 := F.sub_dict_tuple
    have f2 := AutoSeq1.sub_tuple_tuple
    wp_walk using wpAny_loadPart' hl, wpAny_loadPart' hb
    exact ⟨_, rfl, h⟩
theorem rc_dict_tuple {A : Around} {s : Shared} {l b : Addr} {o : Obj} {items2 : Array Value} (hl : s.heap.get? l = some o) (ho : o.ExactDict) (hb : s.heap.IsTuple b items2) (hu : A.units < cLine) : RcNeAt A s (.ref l) (.ref b) true := fun prog w E Q h => by
  obtain ⟨⟨cls2, dd2, data2, sl2⟩, ho2, hc2, n2, hd2⟩ := id hb
  simp only at hc2 hd2
  subst hc2 hd2
  have hne : l ≠ b := fun e => by
    subst e
    rw [hl] at ho2
    have h1 := ho.1
    rw [Option.some.inj ho2] at h1
    simp at h1
  exact (rc_ne_decline_or (k := false) ⟨_, hl, ho.1⟩ ⟨_, ho2, rfl⟩ (by decide) F.sub_tuple_dict F.slot_dict_ne F.slot_tuple_ne_refl
    (fun _ hq => call_meets F.slot_dict_ne ⟨_, hl, ho.1⟩ F.entry_dict_ne (F.args_dict_ne_2 _ _) (dict_ne_declines_tuple l b o ho items2 n2 dd2 sl2) ⟨hl, ho2, hq⟩)
    (fun _ hq => call_meets F.slot_tuple_ne_refl ⟨_, ho2, rfl⟩ F.entry_tuple_ne (F.args_tuple_ne_2 _ _) (tuple_ne_declines_dict l b o ho items2 n2 dd2 sl2) ⟨hl, ho2, hq⟩)
    (fun _ hq => wpAny_isSame_ref_other hne hl ho2 (by rw [ho.1]; simp) hq) (.inr hu) h)
end
section
variable {X : Cx} {k : Nat} {f : Addr} {fd : FuncData} {ps : List Str} {sp : Sp}
def rNeE (K : PySem.W.Frag) (PC : Addr → Prop) (sp : Sp) : R2 := fun x y H Q => ∃ b, y = .ref b ∧ SqT K H b [] ∧
  ((∃ a xs, x = .ref a ∧ SqT K H a xs ∧ Q (.bl (!xs.isEmpty)) H) ∨
   (∃ a kvs, x = .ref a ∧ Rd H a (.dK kvs) ∧ Q (.bl true) H) ∨
   (∃ a C dx fs, x = .ref a ∧ H a = some (.ins C dx fs) ∧ PC C ∧ sp [.ref a, .ref b] H (fun v H' => ∃ c, v = .bl c ∧ Q (.bl (!c)) H') E0) ∨
   rNeA K x y H Q)
theorem op_neE {PC : Addr → Prop} (hu : X.A.units + 64 < cLine) (hc : ∀ C, PC C → NeOk X.K C f) (hb : Binds X.K fd ps []) (G : FnOk X.prog X.w X.K X.mg X.base CX0 k f fd ps sp) (hr : Room (k + 1) X.A) : OpR X (compareOp .NotEq) (rNeE X.K PC sp) := by
  intro pins s σ H x y v u Q I rx ry h
  obtain ⟨b, rfl, hy, h⟩ := h
  have u0 : X.A.units < cLine := Nat.lt_of_le_of_lt (Nat.le_add_right _ _) hu
  rcases h with ⟨a, xs, rfl, ha, q⟩ | ⟨a, kvs, rfl, ha, q⟩ | ⟨a, C, dx, fs, rfl, ha, hC, h⟩ | h
  · cases rx
    cases ry
    obtain ⟨its, r1, p1, _⟩ := I.tuple ha
    obtain ⟨its2, r2, p2, _⟩ := I.tuple hy
    cases r2
    have hl : its.length = xs.length := r1.length.symm
    have z := SeqAt.RcNeAt.tuples (e := fun _ => true) p1 p2 u0 (fun j h1 h2 => absurd h2 (Nat.not_lt_zero j))
    refine z X.prog X.w _ _ ⟨.bl _, H, I, ?_, q⟩
    cases xs with
    | nil => 
      have : its = [] := List.length_eq_zero_iff.mp hl
      subst this
      rfl
    | cons x xs =>
      cases its with
      | nil => simp at hl
      | cons y ys => rfl
  · cases rx
    cases ry
    obtain ⟨its2, r2, p2, _⟩ := I.tuple hy
    obtain ⟨_, _, _, _, o, _, _, e, ex, _⟩ := ha.ok I.hok
    exact rc_dict_tuple e ex p2 u0 X.prog X.w _ _ ⟨.bl _, H, I, rfl, q⟩
  · cases rx
    cases ry
    have c := hc C hC
    obtain ⟨its2, r2, p2, _⟩ := I.tuple hy
    obtain ⟨mA, J, _⟩ := ins_get I.hok ha
    obtain ⟨od, J, _⟩ := J.look
    have hu := hr.units
    have ht : PySem.W.Looks (model X.prog X.w) s.heap (typeOf (.ref b)) (.type "tuple") := by
      obtain ⟨o, e, hc, _⟩ := p2
      exact hc ▸ (PySem.W.Looks.ld e).andThen .now
    refine ne_rich (h0 := X.base) (L := 0) (m := fun _ => none) (tb := .type "tuple") (by omega) I.kIn J c ht (nf_tuple _ _) ?_
    refine wpAny_mono (run_at (A := X.A.in1) rfl G hr.in1 hb I (vs := [V.ref a, V.ref b]) (.cons rfl (.cons rfl .nil)) h) (fun u s' hq => ?_) fun _ _ e => e
    obtain ⟨z, H', I', rz, cc, rfl, q⟩ := hq
    cases rz
    exact ⟨cc, rfl, .bl (!cc), H', I', rfl, by cases cc <;> exact q⟩
  · exact op_neA hu pins s σ H x (.ref b) v u Q I rx ry h
/-- over data -/
def dNeE (PC : Addr → Prop) (F : FD) (da db : DE) : DE := fun sl M ED Q => da sl M ED fun x M1 => db sl M1 ED fun y M2 => y = .tup [] ∧
  ((∃ xs, x = .tup xs ∧ Q (.bl (!xs.isEmpty)) M2) ∨ (∃ kvs, x = .dic kvs ∧ Q (.bl true) M2) ∨
   (∃ C fs, x = .obj C fs ∧ PC C ∧ F [x, y] [] (fun _ _ _ => False) fun d M' => ∃ c, d = .bl c ∧ Q (.bl (!c)) (M2 ++ M')) ∨ eqD true x y M2 Q)
theorem sim_neE {K : PySem.W.Frag} {E : L2.St → XK} {PC : Addr → Prop} {F : FD} {ta tb : TE} {da db : DE} (ha : SimE K E ta da) (hb : SimE K E tb db) : SimE K E (tOp (rNeE K PC (spD K F)) ta tb) (dNeE PC F da db) := by
  intro S0 sl M σ H Q QD ED k xl hd l
  refine ha S0 sl M σ H _ _ ED k xl hd fun d1 M1 x H1 m1 x1 r1 q1 => ?_
  refine hb S0 sl M1 σ H1 _ _ ED (k.ext m1 x1) (xl.ext x1) q1 fun d2 M2 y H2 m2 x2 r2 q2 => ?_
  obtain ⟨rfl, q2⟩ := q2
  have r1' := r1.ext x2
  have l' := l.ext (x1.trans x2)
  have r2' := r2
  cases r2 with
  | @tup b us _ g1 g2 =>
  cases g2
  refine ⟨b, rfl, g1.sq, ?_⟩
  rcases q2 with ⟨xs, rfl, q⟩ | ⟨kvs, rfl, q⟩ | ⟨C, fs, rfl, hC, q⟩ | q
  · cases r1' with
    | @tup a vs _ h1 h2 =>
    have : vs.isEmpty = xs.isEmpty := by
      have := h2.length
      cases vs <;> cases xs <;> simp at this ⊢
    exact .inl ⟨a, vs, rfl, h1.sq, by rw [this]; exact l'.now m2 (.bl _) q⟩
  · cases r1' with
    | @dic a ws _ h1 h2 h3 =>
    exact .inr (.inl ⟨a, ws, rfl, h2, l'.now m2 (.bl _) q⟩)
  · cases r1' with
    | @obj a _ dx ws _ h1 h2 h3 =>
    refine .inr (.inr (.inl ⟨a, C, dx, ws, rfl, h2, hC, mk0 S0 [] M2, [.obj C fs, .tup []], sel [] M2, _, _, m2.sel List.nodup_nil, by rw [mk0_sm]; exact .cons (.obj h1 h2 h3) (.cons r2' .nil), q, fun d M' v H' m' x' pr r' q' => ?_, fun cls fs M' dd H' m' x' pr r' q' => q'.elim⟩))
    obtain ⟨p1, p2, p3⟩ := put_back m2 List.nodup_nil rfl m' x' pr
    obtain ⟨c, rfl, q'⟩ := q'
    cases r'
    exact ⟨c, rfl, l _ _ _ H' p1 ((x1.trans x2).trans p2) (.bl _) q'⟩
  · exact .inr (.inr (.inr (sv_ne S0 M2 H2 x (.ref b) d1 (.tup []) _ _ m2 (.imm r1') (.imm r2') q l')))
theorem de_neE {E : L2.St → XK} {a b : Expr} {pos : Pos} {PC : Addr → Prop} {PE : Addr → Addr → Prop} {F : FD} {da db : DE} (hu : X.A.units + 64 < cLine) (c : EqOk X.prog X.w X.K X.mg X.base k PE F) (hP : ∀ C, PC C → ∃ C', PE C C') (hr : Room (k + 1) X.A) (ha : DEx X E a da) (hb : DEx X E b db) (hm : behindInMarks .NotEq b = false := by first | exact nomark _ | rfl) : DEx X E (.Compare a [.NotEq] [b] pos) (dNeE PC F da db) := by
  obtain ⟨f, fd, ps, h1, h2, h3⟩ := c
  obtain ⟨ta, p1, s1⟩ := ha
  obtain ⟨tb, p2, s2⟩ := hb
  exact ⟨_, pe_cmpR (op_neE (PC := PC) hu (fun C hC => (hP C hC).elim fun C' h => (h1 C C' h).1) h2 h3 hr) p1 p2 hm, sim_neE s1 s2⟩
theorem dt_neE {E : L2.St → XK} {a b : Expr} {pos : Pos} {PC : Addr → Prop} {PE : Addr → Addr → Prop} {F : FD} {da db : DE} (hu : X.A.units + 64 < cLine) (c : EqOk X.prog X.w X.K X.mg X.base k PE F) (hP : ∀ C, PC C → ∃ C', PE C C') (hr : Room (k + 1) X.A) (ha : DEx X E a da) (hb : DEx X E b db) (hm : behindInMarks .NotEq b = false := by first | exact nomark _ | rfl) : DTx X E (.Compare a [.NotEq] [b] pos) (dTest (dNeE PC F da db)) := by
  obtain ⟨f, fd, ps, h1, h2, h3⟩ := c
  obtain ⟨ta, p1, s1⟩ := ha
  obtain ⟨tb, p2, s2⟩ := hb
  exact ⟨_, pt_cmpR (op_neE (PC := PC) hu (fun C hC => (hP C hC).elim fun C' h => (h1 C C' h).1) h2 h3 hr) p1 p2 hm, sim_test (sim_neE s1 s2)⟩
end
end OD

/-! F30: x != (), as a plain function. -/
namespace F
open PySem PySem.Spec L2 OD
section
variable {np : Nat} {fa fb : FE} {da db : DE}
def neE2 (PC : Addr → Bool) (ff : FF) (x y : D) : Option Bool := match y with
  | .tup [] => (match x with
    | .tup xs => some (!xs.isEmpty)
    | .dic _ => some true
    | .obj C fs => if PC C = true then (eqRs (ff [.im (.obj C fs), .im (.tup [])])).map (fun b => !b) else none
    | x => (eqW x (.tup [])).map (fun b => !b))
  | _ => none
def fNeE (PC : Addr → Bool) (ff : FF) (a b : FE) (s : Sl) : R Sv := (a s).bind fun w s => imK w fun x => (b s).bind fun w s => imK w fun y => (match neE2 PC ff x y with | some b => .ok (.im (.bl b)) s | none => .bad)
theorem s_neE {PC : Addr → Bool} {P' : Addr → Prop} {ff : FF} (hP : ∀ C, PC C = true → P' C) (ha : SimE fa da) (hb : SimE fb db) : SimE (fNeE PC ff fa fb) (dNeE P' (fdN 2 ff) da db) := by
  intro c fs sl M ED Q r q
  refine ha c fs sl M ED _ r (poE_cases q fun w fs1 e q x M1 r1 => ?_)
  cases w with
  | im x' =>
    obtain rfl := r1.eq
    unfold imK at q
    dsimp only at q
    refine hb c fs1 sl M1 ED _ r1.rel (poE_cases q fun w fs2 e q y M2 r2 => ?_)
    cases w with
    | im y' =>
      obtain rfl := r2.eq
      dsimp only at q
      split at q
      · rename_i b eb
        have q1 := q _ M2 (r2.rel.imI _)
        unfold neE2 at eb
        split at eb
        · refine ⟨rfl, ?_⟩
          have ew : ∀ z : D, (eqW z (.tup [])).map (fun b => !b) = some b → eqD true z (.tup []) M2 Q := fun z hz => by
            obtain ⟨c, h1, h2⟩ := Option.map_eq_some_iff.mp hz
            refine eqF_ok (n := true) z (.tup []) (.bl b) M2 Q ?_ q1
            unfold eqF
            rw [h1, Option.map_some, ← h2]
            rfl
          split at eb
          · cases eb
            exact .inl ⟨_, rfl, q1⟩
          · cases eb
            exact .inr (.inl ⟨_, rfl, q1⟩)
          · rename_i C fs'
            by_cases hp : PC C = true
            · rw [if_pos hp] at eb
              obtain ⟨b', eb, e2⟩ := Option.map_eq_some_iff.mp eb
              refine .inr (.inr (.inl ⟨C, fs', rfl, hP _ hp, ?_⟩))
              refine ⟨List.nodup_nil, [.im (.obj C fs'), .im (.tup [])], [[], []], rfl, .cons ⟨rfl, rfl⟩ (.cons ⟨rfl, rfl⟩ .nil), rfl, ?_⟩
              unfold eqRs at eb
              split at eb
              · rename_i b'' outs er
                cases eb
                rw [er]
                intro d Ew Es' g1 g2 g3
                obtain ⟨rfl, rfl⟩ := g3
                refine ⟨b', rfl, ?_⟩
                rw [flat_keys g2 rfl, List.append_nil, List.append_nil, e2]
                exact q1
              · cases eb
            · rw [if_neg hp] at eb; cases eb
          · exact .inr (.inr (.inr (ew _ eb)))
        · cases eb
      · exact q.elim
    | _ => exact q.elim
  | _ => exact q.elim
end
@[simp] theorem neE2_tup (PC : Addr → Bool) (ff : FF) (xs : List D) : neE2 PC ff (.tup xs) (.tup []) = some (!xs.isEmpty) := rfl
@[simp] theorem neE2_dic (PC : Addr → Bool) (ff : FF) (xs : List (Key × D)) : neE2 PC ff (.dic xs) (.tup []) = some true := rfl
@[simp] theorem neE2_obj (PC : Addr → Bool) (ff : FF) (C : Addr) (fs : List (Str × D)) : neE2 PC ff (.obj C fs) (.tup []) = if PC C = true then (eqRs (ff [.im (.obj C fs), .im (.tup [])])).map (fun b => !b) else none := rfl
end F

/-! OD37: dicts whose keys are tuples: {}, d[a, b] = v, d[t]. -/
namespace OD
open PySem PySem.Spec L2
def lookT (kvs : List (List Key × D)) (k : List Key) : Option D := (kvs.find? fun kv => decide (kv.1 = k)).map (·.2)
def putT (kvs : List (List Key × D)) (k : List Key) (v : D) : List (List Key × D) := if (kvs.any fun kv => decide (kv.1 = k)) = true then kvs.map fun kv => if kv.1 = k then (kv.1, v) else kv else kvs ++ [(k, v)]
def keysD : List D → Option (List Key)
  | [] => some []
  | d :: r => match keyD d, keysD r with
    | some k, some ks => some (k :: ks)
    | _, _ => none
section
variable {K : PySem.W.Frag} {S : Mark} {H : Hp}
theorem keysD_V : ∀ {ds : List D} {vs : List V} {ks : List Key}, Reps K S H vs ds → keysD ds = some ks → vs = ks.map kV := by
  intro ds
  induction ds with
  | nil => intro vs ks r e; cases r; cases e; rfl
  | cons d ds ih =>
    intro vs ks r e
    cases r with
    | cons r1 r2 =>
      unfold keysD at e
      split at e
      · rename_i k ks' e1 e2
        cases e
        rw [List.map_cons, keyD_V (.imm r1) e1, ih r2 e2]
      · cases e
theorem RepsT.val {k : List Key} {d : D} : ∀ {kvs : List (List Key × D)} {ws : List (List Key × V)}, RepsT K S H ws kvs → lookT kvs k = some d → ∃ v, valV ws k = some v ∧ Rep K S H v d := by
  intro kvs
  induction kvs with
  | nil => intro ws _ e; cases e
  | cons p r ih =>
    intro ws h e
    unfold lookT at e
    cases h with
    | @cons q _ qs _ a b =>
      obtain ⟨a1, a2⟩ := a
      by_cases z : p.1 = k
      · rw [List.find?_cons_of_pos (by simpa using z)] at e
        cases e
        exact ⟨q.2, valV_pos (a1.trans z), a2⟩
      · rw [List.find?_cons_of_neg (by simpa using z)] at e
        obtain ⟨v, h1, h2⟩ := ih b e
        exact ⟨v, by rw [valV_neg (fun y => z (a1.symm.trans y))]; exact h1, h2⟩
theorem RepsT.any {k : List Key} : ∀ {kvs : List (List Key × D)} {ws : List (List Key × V)}, RepsT K S H ws kvs → (ws.any fun kv => decide (kv.1 = k)) = kvs.any fun kv => decide (kv.1 = k) := by
  intro kvs
  induction kvs with
  | nil => intro ws h; cases h; rfl
  | cons p r ih =>
    intro ws h
    cases h with
    | @cons q _ qs _ a b => rw [List.any_cons, List.any_cons, ih b, a.1]
theorem RepsT.repl {k : List Key} {v : V} {d : D} (rv : Rep K S H v d) : ∀ {kvs : List (List Key × D)} {ws : List (List Key × V)}, RepsT K S H ws kvs → RepsT K S H (ws.map fun kv => if kv.1 = k then (kv.1, v) else kv) (kvs.map fun kv => if kv.1 = k then (kv.1, d) else kv) := by
  intro kvs
  induction kvs with
  | nil => intro ws h; cases h; exact .nil
  | cons p r ih =>
    intro ws h
    cases h with
    | @cons q _ qs _ a b =>
      rw [List.map_cons, List.map_cons]
      by_cases z : p.1 = k
      · rw [if_pos z, if_pos (a.1.trans z)]; exact .cons ⟨a.1, rv⟩ (ih b)
      · rw [if_neg z, if_neg (fun y => z (a.1.symm.trans y))]; exact .cons a (ih b)
theorem RepsT.put {k : List Key} {v : V} {d : D} (rv : Rep K S H v d) {kvs : List (List Key × D)} {ws : List (List Key × V)} (h : RepsT K S H ws kvs) : RepsT K S H (putK ws k v) (putT kvs k d) := by
  unfold putK putT
  rw [h.any]
  split
  · exact h.repl rv
  · exact Paired.snoc h ⟨rfl, rv⟩
end
section
variable {X : Cx} {E : L2.St → XK} {a b o e : Expr} {es : List Expr} {pos : Pos} {da db dv : DE} {dr : DA}
def dDicT0 : DE := fun _ M _ Q => al true (.dct []) M Q
theorem de_dicT0 : DEx X E (.Dict [] [] pos) dDicT0 := ⟨_, pe_dnewT, fun S0 sl M σ H Q QD ED k xl hd l p np =>
  l (.ref p) _ _ _ (k.mem.new_own (n := .dct []) np ⟨[], upd_same, .nil⟩) (.new_own np) (.ref p) (hd p (k.mem.notKey np))⟩
theorem key_ofT {pins : List (Addr × Obj)} {σ : L2.St} {H : Hp} {s : Shared} {b : Addr} {ks : List Key} (I : Inv X pins σ H s) (e : SqT X.K H b (ks.map kV)) : (tupleKind (mixKind X.prog X.w)).is s.heap ks b := by
  obtain ⟨its, r, ⟨o, h1, h2, n, h3⟩, hz⟩ := I.tuple e
  exact ⟨o, its.toArray, n, h1, h2, h3, by simpa using items_are r⟩
def rIxT2 (K : PySem.W.Frag) : R2 := fun x y H Q => ∃ a b kvs ks v, x = .ref a ∧ Rd H a (.dT kvs) ∧ y = .ref b ∧ SqT K H b (ks.map kV) ∧ valV kvs ks = some v ∧ Q v H
theorem ix_dT (hu : X.A.units + 1 < cLine) : IxR X (rIxT2 X.K) := by
  intro value slice pins s σ H x y v u Q I rx ry q hs
  obtain ⟨a, b, kvs, ks, w, rfl, g, rfl, eb, l, q⟩ := q
  cases rx
  cases (show u = Value.ref b from ry)
  obtain ⟨z, hd, xs, rel, dd⟩ := dt_rd I.hok g
  obtain ⟨w', hw, rw'⟩ := RelO.some_of (v := w) (o := (atKey xs ks).map (·.2)) (by rw [← l]; exact rel.val ks)
  obtain ⟨p, hp, hp2⟩ := Option.map_eq_some_iff.mp hw
  refine PyProof.Rows.tail_any dd.typeIs PySem.F.slot_dict_getitem.lookup (wpAny_getItem_heap (tupleKind_room_in1 hu) (key_ofT I eb) dd hp ?_) hs
  rw [hp2]
  exact ⟨w, H, I.tok _, rw', q⟩
def dIxT (da db : DE) : DE := fun sl M ED Q => da sl M ED fun x M1 => db sl M1 ED fun y M2 => ∃ (p : Addr) (k : Nat) (kvs : List (List Key × D)) (ds : List D) (ks : List Key) (d : D), x = .ref p ∧ M2[k]? = some (p, N.dct kvs) ∧ y = .tup ds ∧ keysD ds = some ks ∧ lookT kvs ks = some d ∧ Q d M2
theorem de_ixT (hu : X.A.units + 64 < cLine) (ha : DEx X E a da) (hb : DEx X E b db) (hs : PlainIx b := by exact fun _ _ => rfl) : DEx X E (.Subscript a b pos) (dIxT da db) := by
  obtain ⟨ta, p1, s1⟩ := ha
  obtain ⟨tb, p2, s2⟩ := hb
  refine ⟨_, pe_ix (ix_dT (by omega)) p1 p2 hs, fun S0 sl M σ H Q QD ED k xl hd l => ?_⟩
  refine s1 S0 sl M σ H _ _ ED k xl hd fun x M1 x' H1 m1 x1 r1 q1 => ?_
  refine s2 S0 sl M1 σ H1 _ _ ED (k.ext m1 x1) (xl.ext x1) q1 fun y M2 y' H2 m2 x2 r2 q2 => ?_
  obtain ⟨p, j, kvs, ds, ks, d, rfl, e, rfl, ek, el, q⟩ := q2
  have g := m2.at_ _ (List.mem_of_getElem? e)
  obtain ⟨ws, h1, h2⟩ := g
  cases r1
  cases r2 with
  | @tup b vs _ g1 g2 =>
  obtain ⟨v, hv, rv⟩ := h2.val el
  have hk := keysD_V g2 ek
  subst hk
  exact ⟨p, b, ws, ks, v, rfl, .inl h1, rfl, g1.sq, hv, (l.ext (x1.trans x2)).now m2 rv q⟩
def dSetT (dv da : DE) (dr : DA) : DS := fun Dd sl M => dv sl M (Dd.ex sl) fun v M1 => da sl M1 (Dd.ex sl) fun x M2 => dr sl M2 (Dd.ex sl) fun ds M3 =>
  ds.length ≤ sizeLine ∧ ∃ (p : Addr) (k : Nat) (kvs : List (List Key × D)) (ks : List Key), x = .ref p ∧ M3[k]? = some (p, N.dct kvs) ∧ keysD ds = some ks ∧ kvs.length < sizeLine ∧ Dd.nx sl (M3.set k (p, N.dct (putT kvs ks v)))
def rSetT : V → V → V → Hp → (Hp → Prop) → Prop := fun o i v H Q => ∃ a H', o = .ref a ∧ DPut H a i v H' ∧ Q H'
theorem set_dT (hu : X.A.units + 1 < cLine) : PSet X rSetT := by
  intro pins s σ H o i v ov iv u Q I ro ri rv q
  obtain ⟨a, H', rfl, g, q⟩ := q
  cases ro
  exact d_setItem hu I g ri rv fun s' I' => ⟨H', I', q⟩
theorem ds_setT {n : Nat} {pos' tpos : Pos} (hu : X.A.units + 64 < cLine) (hv : DEx X E e dv) (ho : DEx X E o da) (hi : DAx X E es dr) (hs : swapsWithSole [.Subscript o (.Tuple es n tpos) pos'] e pos.line X.env = pure false := by rfl) (hw : swappedStores [.Subscript o (.Tuple es n tpos) pos'] e X.env = pure none := by rfl)
    (ha : ∀ v, assign (.Subscript o (.Tuple es n tpos) pos') X.env v = (do
      let ov ← holding [v] (eval o X.env)
      let iv ← holding [v, ov] (eval (.Tuple es n tpos) X.env)
      standAt pos'
      holding [v, ov, iv] (setItem ov iv v)
      release [v, ov, iv] []) := by intro _; rfl) (h1 : (assignEach [.Subscript o (.Tuple es n tpos) pos'] X.env).map (·.2) = [assign (.Subscript o (.Tuple es n tpos) pos') X.env] := by rfl) :
    DSx X E (.Assign [.Subscript o (.Tuple es n tpos) pos'] e pos) (dSetT dv da dr) := by
  obtain ⟨tv, p1, s1⟩ := hv
  obtain ⟨to, p2, s2⟩ := ho
  obtain ⟨ti, p3, s3⟩ := hi
  refine ⟨_, ps_asg p1 (pg_sub p2 (pe_tup p3) (set_dT (by omega)) ha) hs hw h1, fun S0 sl M σ H Dd Dn k l h => ?_⟩
  refine s1 S0 sl M σ H _ _ _ k (l.xl k) h fun v M1 v' H1 m1 x1 r1 q1 => ?_
  have k1 := k.ext m1 x1
  refine s2 S0 sl M1 σ H1 _ _ _ k1 ((l.ext x1).xl k1) q1 fun x M2 x' H2 m2 x2 r2 q2 => ?_
  have x12 := x1.trans x2
  have k2 := k.ext m2 x12
  refine s3 S0 sl M2 σ H2 _ _ _ k2 ((l.ext x12).xl k2) q2 fun ds M3 vs H3 m3 x3 r3 q3 => ?_
  have x13 := x12.trans x3
  obtain ⟨hz, p, j, kvs, ks, rfl, e, ek, hl, q⟩ := q3
  have hk := keysD_V r3 ek
  subst hk
  refine ⟨by rw [r3.length]; exact hz, fun t nt => ?_⟩
  have rx := r2.ext x3
  cases rx
  have rv := r1.ext (x2.trans x3)
  have m4 : MemOk X.K S0 M3 (upd H3 t (.tup (ks.map kV))) := m3.new_imm nt
  have x4 : Ext M3 H3 M3 (upd H3 t (.tup (ks.map kV))) := .new_imm nt
  obtain ⟨ws, g1, g2⟩ := m4.at_ _ (List.mem_of_getElem? e)
  have rv4 := rv.ext x4
  have hlen : ws.length = kvs.length := Paired.length g2
  have g' : NodeAt X.K (SM S0 M3) (upd (upd H3 t (.tup (ks.map kV))) p (.dT (putK ws ks v'))) p (.dct (putT kvs ks v)) := ⟨_, upd_same, RepsT.mono (kp_write e _) (g2.put rv4)⟩
  refine ⟨p, _, rfl, DPut.t g1 upd_same (by rw [hlen]; exact hl), ?_⟩
  have x14 := x13.trans x4
  exact l.nx sl _ σ _ (k.ext (m4.write e g') (x14.trans (.write e))) (x14.trans (.write e)) q
end
end OD

/-! F31: dicts by tuples, as plain functions. -/
namespace F
open PySem PySem.Spec L2 OD
section
variable {np : Nat} {fa fb : FE} {da db : DE} {as : FA} {dr : DA}
@[simp] def fDicT (s : Sl) : R Sv := .ok (.dct []) s
theorem s_dicT : SimE fDicT dDicT0 := fun c fs sl M ED Q r q => al_new (n := .dct []) rfl r q
theorem Rel.dct {c : Cz} {fs : Sl} {sl : Slots} {M : Mem} (r : Rel c fs sl M) {i : Nat} {xs : List (List Key × D)} (e : fs[i]? = some (some (.dct xs))) : ∃ p k, sl[i]? = some (some (.ref p)) ∧ M[k]? = some (p, .dct xs) ∧
    ∀ ys, Rel c (fs.set i (some (.dct ys))) sl (M.set k (p, .dct ys)) := by
  have r0 := r
  obtain ⟨E, r⟩ := r
  obtain ⟨d, hd, p, rfl, ep⟩ := r.slt i _ e
  obtain ⟨k, hk⟩ := List.getElem?_of_mem (r.sub (i + 1) (p, .dct xs) (by rw [ep]; simp))
  refine ⟨p, k, hd, hk, fun ys => r0.wr e hk hd ⟨p, rfl, rfl⟩ fun E ⟨q, h1, h2⟩ => ?_⟩
  cases h1; rw [h2]; rfl
@[simp] def getT (kvs : List (List Key × D)) (y : D) : Option D := match y with
  | .tup ds => (match keysD ds with | some ks => lookT kvs ks | none => none)
  | _ => none
@[simp] def fIxT (i : Nat) (b : FE) (s : Sl) : R Sv := match s[i]? with
  | some (some _) => (b s).bind fun w s => imK w fun y => (match s[i]? with
    | some (some (.dct kvs)) => (match getT kvs y with | some d => .ok (.im d) s | none => .bad)
    | _ => .bad)
  | _ => .bad
theorem s_ixT {i : Nat} (hb : SimE fb db) : SimE (fIxT i fb) (dIxT (dVar i) db) := by
  intro c fs sl M ED Q r q
  unfold fIxT at q
  split at q
  · rename_i sv0 e0
    obtain ⟨E, r'⟩ := r
    obtain ⟨x0, h1, h2⟩ := r'.slt i _ e0
    have r : Rel c fs sl M := ⟨E, r'⟩
    refine ⟨x0, h1, hb c fs sl M ED _ r (poE_cases q fun w fs1 e q y M1 r1 => ?_)⟩
    cases w with
    | im y' =>
      obtain rfl := r1.eq
      unfold imK at q
      dsimp only at q
      split at q
      · rename_i kvs e3
        obtain ⟨p, t, g1, g2, g3⟩ := r1.rel.dct e3
        rw [h1] at g1; cases g1
        split at q
        · rename_i d ed
          unfold getT at ed
          split at ed
          · rename_i ds
            split at ed
            · rename_i ks ek
              exact ⟨p, t, kvs, ds, ks, d, rfl, g2, rfl, ek, ed, q _ M1 (r1.rel.imI _)⟩
            · cases ed
          · cases ed
        · exact q.elim
      · exact q.elim
    | _ => exact q.elim
  · exact q.elim
@[simp] noncomputable def fSetT (i : Nat) (as : FA) (v : FE) (s : Sl) : O := (v s).thn fun w s => imS w fun d => match s[i]? with
  | some (some _) => (as s).thn fun ds s => (match s[i]? with
    | some (some (.dct kvs)) => (match keysD ds with | some ks => cif (kvs.length < 16777216 ∧ ds.length ≤ 16777216) (.nx (s.set i (some (.dct (putT kvs ks d))))) .bad | none => .bad)
    | _ => .bad)
  | _ => .bad
theorem s_setT {i : Nat} (hv : SimE fa da) (hi : SimA as dr) : SimS np (fSetT i as fa) (dSetT da (dVar i) dr) := by
  intro c hc Dd fs sl M r q
  refine hv c fs sl M _ _ r (poE_st q fun w fs1 e q d M1 r1 => ?_)
  cases w with
  | im x =>
    obtain rfl := r1.eq
    unfold imS at q
    dsimp only at q
    split at q
    · rename_i sv0 e0
      obtain ⟨E, r1'⟩ := r1.rel
      obtain ⟨x0, h1, h2⟩ := r1'.slt i _ e0
      refine ⟨x0, h1, hi c fs1 sl M1 _ _ r1.rel (poA_st q fun ds fs2 e q M2 r2 => ?_)⟩
      split at q
      · rename_i kvs e3
        obtain ⟨p, t, g1, g2, g3⟩ := r2.dct e3
        rw [h1] at g1; cases g1
        split at q
        · rename_i ks ek
          by_cases hz : kvs.length < 16777216 ∧ ds.length ≤ 16777216
          · rw [cif_pos hz] at q
            exact ⟨hz.2, p, t, kvs, ks, rfl, g2, ek, hz.1, q _ _ (g3 _)⟩
          · rw [cif_neg hz] at q; exact q.elim
        · exact q.elim
      · exact q.elim
    · exact q.elim
  | _ => exact q.elim
end
@[simp] theorem isLok_dct (d) : isLok (.dct d) = false := rfl
@[simp] theorem owned_dct (d) : owned (.dct d) = true := rfl
@[simp] theorem isPot_dct (d) : isPot (.dct d) = false := rfl
end F

/-! OD38: an owned list, walked in a comprehension. -/
namespace OD
open PySem PySem.Spec L2
section
variable {X : Cx} {E : L2.St → XK} {K : PySem.W.Frag}
def diSeqM (da : DE) : DI := fun sl M ED RD => da sl M ED fun x M1 => ∃ (p : Addr) (k : Nat) (xs : List D), x = .ref p ∧ M1[k]? = some (p, .lst xs) ∧ RD (itSeq xs fun M' => (p, N.lst xs) ∈ M') M1
theorem di_seqM {tg e : Expr} {da : DE} (h : DEx X E e da) : DIx X E tg e (diSeqM da) := by
  obtain ⟨t, p, s⟩ := h
  refine ⟨_, pi_any p, fun S0 sl M σ H R RD ED k xl hd l => s S0 sl M σ H _ _ ED k xl hd fun d M1 v H1 m1 x1 r1 q1 => ?_⟩
  obtain ⟨p, j, xs, rfl, e, q⟩ := q1
  cases r1
  obtain ⟨vs, h1, h2⟩ := m1.at_ _ (List.mem_of_getElem? e)
  refine .inl ⟨p, vs, rfl, .inl (.inl h1), l _ M1 _ H1 m1 x1 (itRep_list fun S1 M' H' mk m x gd => ?_) q⟩
  obtain ⟨vs', h1', h2'⟩ := m.at_ _ gd
  exact ⟨vs', .inl (.inl h1'), h2'⟩
end
end OD

/-! F32: [.. for x in xs ..], xs an owned list. -/
namespace F
open PySem PySem.Spec L2 OD
section
variable {fa : FE} {da : DE} {ta : FT} {ua : DT}
theorem Rel.hide {c : Cz} {fs : Sl} {sl : Slots} {M : Mem} {i : Nat} {xs : List D} (r : Rel c fs sl M) (e : fs[i]? = some (some (.lst xs))) : ∃ (p : Addr) (k : Nat), sl[i]? = some (some (.ref p)) ∧ M[k]? = some (p, N.lst xs) ∧ Rel (c.lkT (p, N.lst xs)) (fs.set i none) sl M ∧
    ∀ s' M', Rel (c.lkT (p, N.lst xs)) s' sl M' → Rel c (s'.set i (some (.lst xs))) sl M' := by
  obtain ⟨E, r⟩ := r
  obtain ⟨d, h1, p, rfl, h2⟩ := r.slt i _ e
  have kE : keys (E (i + 1)) = [p] := by rw [h2]; rfl
  have hm : (p, N.lst xs) ∈ M := r.sub (i + 1) _ (by rw [h2]; simp)
  obtain ⟨k, hk⟩ := List.getElem?_of_mem hm
  have hi : i < sl.length := (List.getElem?_eq_some_iff.mp h1).1
  refine ⟨p, k, h1, hk, ?_, fun s' M' r' => ?_⟩
  · have e0 : ∀ j, (if j = i + 1 then [] else E j) = [] ∨ (j ≠ i + 1 ∧ (if j = i + 1 then [] else E j) = E j) := fun j => by
      by_cases z : j = i + 1
      · exact .inl (by rw [if_pos z])
      · exact .inr ⟨z, by rw [if_neg z]⟩
    refine ⟨fun j => if j = i + 1 then [] else E j, r.nd, by rw [List.length_set]; exact r.len, ?_, fun j sv e2 => ?_, fun j e2 he => ?_, fun j => ?_, fun j k2 a n ha hb => ?_, fun j hj => ?_, fun j a hj ha => ?_, r.pre, fun e2 he => ?_, fun e2 he j hj => ?_⟩
    · show Ent _ (.im .non) .non (if 0 = i + 1 then [] else E 0)
      rw [if_neg (Nat.succ_ne_zero i).symm]
      exact Ent.lkT.mpr r.tmp
    · have z : i ≠ j := by
        rintro rfl
        rw [List.getElem?_set_self (by rw [r.len]; exact hi)] at e2
        cases e2
      rw [List.getElem?_set_ne z] at e2
      obtain ⟨d', g1, g2⟩ := r.slt j sv e2
      exact ⟨d', g1, by rw [if_neg fun w => z (Nat.succ.inj w).symm]; exact Ent.lkT.mpr g2⟩
    · rcases e0 j with z | ⟨_, z⟩ <;> rw [z] at he
      · cases he
      · exact r.sub j e2 he
    · rcases e0 j with z | ⟨_, z⟩ <;> rw [z]
      · exact List.nodup_nil
      · exact r.ndE j
    · rcases e0 j with z | ⟨_, z⟩ <;> rw [z] at ha
      · cases ha
      · rcases e0 k2 with y | ⟨_, y⟩ <;> rw [y] at hb
        · cases hb
        · exact r.dis j k2 a n ha hb
    · rcases e0 (j + 1) with z | ⟨_, z⟩
      · exact .inl z
      · rw [z]; exact r.pin j hj
    · rcases e0 j with z | ⟨_, z⟩ <;> rw [z] at ha
      · cases ha
      · exact r.frs j a hj ha
    · rcases List.mem_cons.mp he with rfl | he
      · exact hm
      · exact r.lks e2 he
    · rcases e0 j with z | ⟨z1, z⟩ <;> rw [z] at hj
      · cases hj
      · rcases List.mem_cons.mp he with rfl | he
        · exact r.dis j (i + 1) p z1 hj (by rw [kE]; simp)
        · exact r.lkd e2 he j hj
  · obtain ⟨E', r'⟩ := r'
    have hp : ∀ j, p ∉ keys (E' j) := fun j => r'.lkd (p, .lst xs) (List.mem_cons_self ..) j
    have e1 : ∀ j, (j = i + 1 ∧ (if j = i + 1 then [(p, N.lst xs)] else E' j) = [(p, N.lst xs)]) ∨ (j ≠ i + 1 ∧ (if j = i + 1 then [(p, N.lst xs)] else E' j) = E' j) := fun j => by
      by_cases z : j = i + 1
      · exact .inl ⟨z, by rw [if_pos z]⟩
      · exact .inr ⟨z, by rw [if_neg z]⟩
    refine ⟨fun j => if j = i + 1 then [(p, N.lst xs)] else E' j, r'.nd, by rw [List.length_set]; exact r'.len, ?_, fun j sv e2 => ?_, fun j e2 he => ?_, fun j => ?_, fun j k2 a n ha hb => ?_, fun j hj => ?_, fun j a hj ha => ?_, r'.pre, fun e2 he => r'.lks e2 (List.mem_cons_of_mem _ he), fun e2 he j hj => ?_⟩
    · show Ent _ (.im .non) .non (if 0 = i + 1 then [(p, N.lst xs)] else E' 0)
      rw [if_neg (Nat.succ_ne_zero i).symm]
      exact Ent.lkT.mp r'.tmp
    · by_cases z : i = j
      · subst z
        rw [List.getElem?_set_self (by rw [r'.len]; exact hi)] at e2
        cases e2
        exact ⟨.ref p, h1, by rw [if_pos rfl]; exact ⟨p, rfl, rfl⟩⟩
      · rw [List.getElem?_set_ne z] at e2
        obtain ⟨d', g1, g2⟩ := r'.slt j sv e2
        exact ⟨d', g1, by rw [if_neg fun w => z (Nat.succ.inj w).symm]; exact Ent.lkT.mp g2⟩
    · rcases e1 j with ⟨_, z⟩ | ⟨_, z⟩ <;> rw [z] at he
      · cases List.mem_singleton.mp he
        exact r'.lks _ (List.mem_cons_self ..)
      · exact r'.sub j e2 he
    · rcases e1 j with ⟨_, z⟩ | ⟨_, z⟩ <;> rw [z]
      · show [p].Nodup; simp
      · exact r'.ndE j
    · rcases e1 j with ⟨y1, z⟩ | ⟨_, z⟩ <;> rw [z] at ha
      · rcases e1 k2 with ⟨y2, y⟩ | ⟨_, y⟩ <;> rw [y] at hb
        · exact n (y1.trans y2.symm)
        · cases (List.mem_singleton.mp (show a ∈ [p] from ha))
          exact hp k2 hb
      · rcases e1 k2 with ⟨y2, y⟩ | ⟨_, y⟩ <;> rw [y] at hb
        · cases (List.mem_singleton.mp (show a ∈ [p] from hb))
          exact hp j ha
        · exact r'.dis j k2 a n ha hb
    · rcases e1 (j + 1) with ⟨y1, z⟩ | ⟨_, z⟩ <;> rw [z]
      · cases Nat.succ.inj y1
        refine .inr ?_
        rcases r.pin _ hj with w | w
        · rw [w] at kE; cases kE
        · exact kE.symm.trans w
      · exact r'.pin j hj
    · rcases e1 j with ⟨y1, z⟩ | ⟨_, z⟩ <;> rw [z] at ha
      · subst y1
        cases (List.mem_singleton.mp (show a ∈ [p] from ha))
        exact r.frs (i + 1) p hj (by rw [kE]; simp)
      · exact r'.frs j a hj ha
    · rcases e1 j with ⟨y1, z⟩ | ⟨_, z⟩ <;> rw [z] at hj
      · have := List.mem_singleton.mp (show e2.1 ∈ [p] from hj)
        exact r.lkd e2 he (i + 1) (by rw [kE, this]; simp)
      · exact r'.lkd e2 (List.mem_cons_of_mem _ he) j hj
@[simp] noncomputable def fLcO (i : Nat) (vs : List Nat) (tg : FG) (t : FT) (e : FE) (s : Sl) : R Sv := match s[i]? with
  | some (some (.lst xs)) => if vs.all (free (s.set i none)) = true then (nox (lcL vs tg t e xs (s.set i none) [])).bind fun acc s2 => .ok (.im (.lst acc)) ((restF (s.set i none) s2 vs).set i (some (.lst xs))) else .bad
  | _ => .bad
theorem itSeq_okM {c : Cz} {p : Addr} {xs : List D} (h : (p, N.lst xs) ∈ c.lk.fr) : ItOk1 c (itSeq xs fun M' => (p, N.lst xs) ∈ M') xs :=
  ⟨rfl, fun i hi => by
    show (xs[i]?).getD .non = _
    rw [List.getElem?_eq_getElem hi]
    rfl, fun fs sl M r => by obtain ⟨E, r⟩ := r; exact r.lks _ h⟩
theorem s_lcO {i : Nat} {tg : FG} {dg : DG} {vs : List Nat} (hg : SimG vs tg dg) (ht : SimT ta ua) (he : SimE fa da) : SimE (fLcO i vs tg ta fa) (dLc false (diSeqM (dVar i)) vs dg ua da) := by
  intro c fs sl M ED Q r q
  unfold fLcO at q
  split at q
  · rename_i xs e
    by_cases nl : vs.all (free (fs.set i none)) = true
    · rw [if_pos nl] at q
      obtain ⟨p, k, h1, h2, h3, h4⟩ := r.hide e
      refine ⟨_, h1, p, k, xs, rfl, h2, ?_⟩
      refine lc_core1 (o := false) (c := c.lkT (p, .lst xs)) (ED := NoX) (fin := fun acc s2 => .ok (.im (.lst acc)) s2) (Q := fun d M => Q d M) hg ht he (itSeq_okM (List.mem_cons_self ..)) h3 nl ?_ fun acc s M' r' q' => q' _ M' (r'.imI _)
      cases el : lcL vs tg ta fa xs (fs.set i none) [] with
      | ok acc s2 =>
        rw [el, nox_ok, ok_bind] at q
        rw [ok_bind]
        intro d M' r'
        obtain rfl := r'.eq
        exact q _ _ ((h4 _ _ r'.rel).imI _)
      | ex cl f s2 => rw [el] at q; exact q.elim
      | bad => rw [el] at q; exact q.elim
    · rw [if_neg nl] at q; exact q.elim
  · exact q.elim
end
end F

/-! FT47: the table, up to three givens. -/
namespace Once
open PySem PySem.Spec L2 OD
theorem Pre.refl (M : Mem) : Pre M M := by unfold Pre; rw [List.take_length]
theorem iteC {c : Bool} {A B : Prop} (e : c = true) (h : A) : if c = true then A else B := by rw [if_pos e]; exact h
theorem iteD {c : Bool} {A B : Prop} (e : c = false) (h : B) : if c = true then A else B := by rw [if_neg (by rw [e]; exact Bool.false_ne_true)]; exact h
/-! pairs -/
def pT (hs rs : List (List Int)) (size names j : Nat) : Int :=
  ((List.range (min names (j + 1) + 1 - (names + j - size))).map fun t => (hs.getD j []).getD (names + j - size + t) 0 * (rs.getD (size - 1 - j) []).getD (names - (names + j - size + t)) 0).sum
def accM (f : Nat → Int) : Nat → Int
  | 0 => 0
  | n + 1 => accM f n + f n
def pairsM (hs rs : List (List Int)) (size names : Nat) : Int := accM (pT hs rs size names) size
/-- each row has three numbers more than rows stand before it, none of them too great -/
structure RowsOk (hs : List (List Int)) : Prop where
  len : ∀ j, j < hs.length → (hs.getD j []).length = j + 3
  small : ∀ i k, ((hs.getD i []).getD k 0).natAbs.log2 < 1000
def lowM (size names : Int) (j : Nat) : Int := if names - size + (0 + (j : Nat) * 1) > 0 then names - size + (0 + (j : Nat) * 1) else 0
def topM (names : Int) (j : Nat) : Int := (if (0 + (j : Nat) * 1 : Int) + 1 < names then (0 + (j : Nat) * 1 : Int) + 1 else names) + 1
theorem lowM_eq (size names j : Nat) : lowM size names j = ((names + j - size : Nat) : Int) := by unfold lowM; split <;> omega
theorem topM_eq (names j : Nat) : topM names j = ((min names (j + 1) + 1 : Nat) : Int) := by unfold topM; split <;> omega
def fd_pairs : FD := fun ds M _ Q => ∃ (h r : Addr) (kh kr : Nat) (hs rs : List (List Int)) (size names : Nat), ds = [.ref h, .ref r, .int size, .int names] ∧ M[kh]? = some (h, .lst (hs.map li)) ∧ M[kr]? = some (r, .lst (rs.map li)) ∧ RowsOk hs ∧ RowsOk rs ∧ size ≤ hs.length ∧ size ≤ rs.length ∧ size ≤ 40 ∧ names ≤ size + 1 ∧
  Q (.int (pairsM hs rs size names)) M
theorem len_pairs : ∀ ds M ED QD, fd_pairs ds M ED QD → ds.length = 4 := fun ds M ED QD ⟨_, _, _, _, _, _, _, _, e, _⟩ => by rw [e]; rfl
def td_pairs : DS :=
  (dSeq (dAsg (dC (.int 0)) (dName 4))
  (dSeq (dFor (diRange1 (dCons (dVar 2) dNil)) (dName 5) (dSeq (dAsg (dOp ixD (dVar 0) (dVar 5)) (dName 6))
  (dSeq (dAsg (dOp ixD (dVar 1) (dOp subD (dOp subD (dVar 2) (dC (.int 1))) (dVar 5))) (dName 7))
  (dSeq (dAsg (dCB max2D (dCons (dC (.int 0)) (dCons (dOp (addD false) (dOp subD (dVar 3) (dVar 2)) (dVar 5)) dNil))) (dName 8))
  (dAug 4 iaddD (dCB sumD (dCons (dLc false (diRange2 (dCons (dVar 8) (dCons (dOp (addD false) (dCB min2D (dCons (dVar 3) (dCons (dOp (addD false) (dVar 5) (dC (.int 1))) dNil))) (dC (.int 1))) dNil))) [9] (dName 9) dYes (dOp (mulD false) (dOp ixD (dVar 6) (dVar 9)) (dOp ixD (dVar 7) (dOp subD (dVar 3) (dVar 9))))) dNil)))))))
  (dRet false (dVar 4))))
theorem rd_pairs : ∀ ds M ED QD, fd_pairs ds M ED QD → td_pairs (outs M QD) (startD ["heads", "rows", "size", "names", "found", "first", "left", "right", "low", "few"] ds) M := by
  rintro ds M ED QD ⟨h, r, kh, kr, hs, rs, size, names, rfl, hh, hr, oh, or, lh, lr, ls, ln, hq⟩
  refine ⟨_, rfl, size, rfl, by omega, by omega, fun j sl M' => M' = M ∧ ∃ a b c d e, sl = [some (.ref h), some (.ref r), some (.int size), some (.int names), some (.int (accM (pT hs rs size names) j)), a, b, c, d, e], ⟨rfl, _, _, _, _, _, rfl⟩, fun _ _ _ _ _ => trivial, ?_, ?_⟩
  · rintro j sl M' hj ⟨rfl, a, b, c, d, e, rfl⟩
    replace hj : j < size := hj
    refine ⟨_, rfl, _, rfl, kh, _, hh, _, atI_l j (by omega) (by omega), ?_⟩
    refine ⟨_, rfl, _, rfl, _, rfl, kr, _, hr, _, atI_l (size - 1 - j) (by omega) (by omega), ?_⟩
    have el := lowM_eq size names j
    have em := topM_eq names j
    refine ⟨_, rfl, _, rfl, _, rfl, _, rfl, ?_⟩
    refine lc_rng (lowM size names j) 1 (min names (j + 1) + 1 - (names + j - size)) (fun t => (hs.getD j []).getD (names + j - size + t) 0 * (rs.getD (size - 1 - j) []).getD (names - (names + j - size + t)) 0) ?_ (by omega) ?_ ?_
    · intro RD hr
      refine ⟨_, rfl, _, rfl, _, rfl, lowM size names j, topM names j, rfl, rg2, ?_⟩
      have e2 : (topM names j - lowM size names j).toNat = min names (j + 1) + 1 - (names + j - size) := by rw [el, em]; omega
      rw [e2]
      exact hr
    · intro t ht Q q
      have l1 := oh.len j (by omega)
      have l2 := or.len (size - 1 - j) (by omega)
      have i1 : lowM size names j + (t : Nat) * 1 = ((names + j - size + t : Nat) : Int) := by omega
      have i2 : (names : Int) - (lowM size names j + (t : Nat) * 1) = ((names - (names + j - size + t) : Nat) : Int) := by omega
      exact ⟨_, rfl, _, rfl, _, atI_i _ i1 (by omega), _, rfl, _, rfl, _, rfl, _, atI_i _ i2 (by omega), mul_big (Nat.lt_trans (oh.small _ _) (by decide)) (Nat.lt_trans (or.small _ _) (by decide)), q⟩
    · exact ⟨_, rfl, rfl, _, _, _, _, _, rfl⟩
  · rintro sl M' ⟨rfl, a, b, c, d, e, rfl⟩
    exact ⟨_, rfl, .all (Pre.refl _) hq⟩
noncomputable def nth (l : List Nat) : Nat → Nat := List.rec (motive := fun _ => Nat → Nat) (fun _ => 0) (fun x _ ih n => Nat.rec (motive := fun _ => Nat) x (fun n' _ => ih n') n) l
noncomputable def row (l : List (List Nat)) : Nat → List Nat := List.rec (motive := fun _ => Nat → List Nat) (fun _ => []) (fun x _ ih n => Nat.rec (motive := fun _ => List Nat) x (fun n' _ => ih n') n) l
noncomputable def termN (L R : List Nat) (low m : Nat) (t : Nat) : Nat := Nat.rec (motive := fun _ => Nat) 0 (fun t ih => Nat.add ih (Nat.mul (nth L (Nat.add low t)) (nth R (Nat.sub m (Nat.add low t))))) t
noncomputable def sumN (A B : List (List Nat)) (j m : Nat) (f : Nat) : Nat := Nat.rec (motive := fun _ => Nat) 0 (fun f ih => Nat.add ih (termN (row A f) (row B (Nat.sub (Nat.sub j 1) f)) (Nat.sub (Nat.add m f) j) m (Nat.sub (Nat.add (min m (Nat.add f 1)) 1) (Nat.sub (Nat.add m f) j)))) f
noncomputable def allN (p : Nat → Bool) (n : Nat) : Bool := Nat.rec (motive := fun _ => Bool) true (fun n ih => and ih (p n)) n
theorem allN_of {p : Nat → Bool} {n : Nat} (h : allN p n = true) : ∀ k, k < n → p k = true := by
  induction n with
  | zero => exact fun k hk => absurd hk (Nat.not_lt_zero _)
  | succ n ih =>
    have h' : (allN p n && p n) = true := h
    rw [Bool.and_eq_true] at h'
    intro k hk
    by_cases e : k = n
    · rw [e]; exact h'.2
    · exact ih h'.1 k (by omega)
theorem nth_eq (l : List Nat) : ∀ n, nth l n = l.getD n 0 := by
  induction l with
  | nil => intro n; rfl
  | cons x r ih => intro n; cases n with
    | zero => rfl
    | succ n => exact (ih n).trans (by simp)
theorem row_eq (l : List (List Nat)) : ∀ n, row l n = l.getD n [] := by
  induction l with
  | nil => intro n; rfl
  | cons x r ih => intro n; cases n with
    | zero => rfl
    | succ n => exact (ih n).trans (by simp)
abbrev zi (l : List Nat) : List Int := l.map Int.ofNat
theorem zi_getD (l : List Nat) (k : Nat) : (zi l).getD k 0 = ((l.getD k 0 : Nat) : Int) := by
  rw [List.getD_eq_getElem?_getD, List.getD_eq_getElem?_getD, List.getElem?_map]
  cases l[k]? <;> rfl
abbrev tk (A : List (List Nat)) (j : Nat) : List (List Int) := (A.take j).map zi
theorem tk_getD {A : List (List Nat)} {j f : Nat} (h : f < j) : (tk A j).getD f [] = zi (A.getD f []) := by
  rw [List.getD_eq_getElem?_getD, List.getD_eq_getElem?_getD, List.getElem?_map, List.getElem?_take_of_lt h]
  cases A[f]? <;> rfl
theorem range_acc (f : Nat → Int) (n : Nat) : ((List.range n).map f).sum = accM f n := by
  induction n with
  | zero => rfl
  | succ n ih => rw [sum_range_succ, ih]; rfl
theorem term_eq (L R : List Nat) (low m : Nat) : ∀ t, accM (fun t => (zi L).getD (low + t) 0 * (zi R).getD (m - (low + t)) 0) t = ((termN L R low m t : Nat) : Int) := by
  intro t
  induction t with
  | zero => rfl
  | succ t ih =>
    show _ + ((zi L).getD (low + t) 0 * (zi R).getD (m - (low + t)) 0) = ((termN L R low m t + nth L (low + t) * nth R (m - (low + t)) : Nat) : Int)
    rw [ih, zi_getD, zi_getD, nth_eq, nth_eq, Int.natCast_add, Int.natCast_mul]
theorem sum_eq (A B : List (List Nat)) (j m : Nat) : ∀ f, f ≤ j → accM (pT (tk A j) (tk B j) j m) f = ((sumN A B j m f : Nat) : Int) := by
  intro f
  induction f with
  | zero => exact fun _ => rfl
  | succ f ih =>
    intro hf
    show _ + pT (tk A j) (tk B j) j m f = ((sumN A B j m f + termN (row A f) (row B (j - 1 - f)) (m + f - j) m (min m (f + 1) + 1 - (m + f - j)) : Nat) : Int)
    rw [ih (by omega), Int.natCast_add]
    congr 1
    unfold pT
    rw [range_acc, tk_getD (by omega), tk_getD (by omega), term_eq, row_eq, row_eq]
/-- what is looked at in a table -/
structure TabOk (A : List (List Nat)) : Prop where
  len : A.length = 4
  rows : ∀ j, j < 4 → (A.getD j []).length = j + 3 ∧ (A.getD j []).getD (j + 2) 0 = 0
  small : ∀ i k, ((A.getD i []).getD k 0).log2 < 1000
noncomputable def chkRows (A : List (List Nat)) : Bool := allN (fun j => and (Nat.beq (row A j).length (j + 3)) (Nat.beq (nth (row A j) (j + 2)) 0)) 4
def chkSmall (A : List (List Nat)) : Bool := A.all fun r => r.all fun x => Nat.blt x.log2 1000
theorem tabOk_of {A : List (List Nat)} (h1 : Nat.beq A.length 4 = true) (h2 : chkRows A = true) (h3 : chkSmall A = true) : TabOk A := by
  refine ⟨Nat.eq_of_beq_eq_true h1, fun j hj => ?_, fun i k => ?_⟩
  · have h := allN_of h2 j hj
    rw [Bool.and_eq_true] at h
    rw [row_eq, nth_eq] at h
    exact ⟨Nat.eq_of_beq_eq_true h.1, Nat.eq_of_beq_eq_true h.2⟩
  · unfold chkSmall at h3
    rw [List.all_eq_true] at h3
    rw [List.getD_eq_getElem?_getD, List.getD_eq_getElem?_getD]
    cases e : A[i]? with
    | none => exact (by decide : (0 : Nat).log2 < 1000)
    | some r =>
      have h4 := h3 r (List.mem_of_getElem? e)
      rw [List.all_eq_true] at h4
      show (r[k]?.getD 0).log2 < 1000
      cases e2 : r[k]? with
      | none => exact (by decide : (0 : Nat).log2 < 1000)
      | some x => have := h4 x (List.mem_of_getElem? e2); exact Nat.le_of_ble_eq_true this
theorem TabOk.rowsOk {A : List (List Nat)} (o : TabOk A) {j : Nat} (hj : j ≤ 4) : RowsOk (tk A j) := by
  have hl : (tk A j).length = j := by rw [List.length_map, List.length_take, o.len]; omega
  refine ⟨fun f hf => ?_, fun i k => ?_⟩
  · rw [hl] at hf
    rw [tk_getD hf, List.length_map, (o.rows f (by omega)).1]
  · by_cases h : i < j
    · rw [tk_getD h, zi_getD, Int.natAbs_natCast]
      exact o.small i k
    · rw [List.getD_eq_getElem?_getD (l := tk A j), List.getElem?_eq_none (by omega)]
      exact (by decide : (0 : Nat).log2 < 1000)
theorem TabOk.len_tk {A : List (List Nat)} (o : TabOk A) {j : Nat} (hj : j ≤ 4) : (tk A j).length = j := by rw [List.length_map, List.length_take, o.len]; omega
/-- a row, its last i numbers done -/
def zr (A : List (List Nat)) (j i : Nat) : List Int := zi (List.replicate (j + 2 - i) 0 ++ (A.getD j []).drop (j + 2 - i))
theorem zr_len {A : List (List Nat)} (o : TabOk A) {j i : Nat} (hj : j < 4) : (zr A j i).length = j + 3 := by
  unfold zr
  rw [List.length_map, List.length_append, List.length_replicate, List.length_drop, (o.rows j hj).1]
  omega
theorem zr_0 {A : List (List Nat)} (o : TabOk A) {j : Nat} (hj : j < 4) : zr A j 0 = List.replicate (j + 3) 0 := by
  unfold zr
  obtain ⟨h1, h2⟩ := o.rows j hj
  have e : (A.getD j []).drop (j + 2) = [0] := by
    rw [List.drop_eq_getElem_cons (by omega), List.drop_eq_nil_of_le (by omega)]
    rw [List.getD_eq_getElem?_getD (l := A.getD j []), List.getElem?_eq_getElem (by omega)] at h2
    exact congrArg (fun z => [z]) h2
  rw [Nat.sub_zero, e, show ([0] : List Nat) = List.replicate 1 0 from rfl, List.replicate_append_replicate, zi, List.map_replicate]
  rfl
theorem zr_n {A : List (List Nat)} {j : Nat} : zr A j (j + 2) = zi (A.getD j []) := by
  unfold zr
  rw [Nat.sub_self]
  rfl
theorem zr_get {A : List (List Nat)} {j i k : Nat} (h : j + 2 - i ≤ k) : (zr A j i).getD k 0 = (((A.getD j []).getD k 0 : Nat) : Int) := by
  unfold zr
  rw [zi_getD]
  congr 1
  rw [List.getD_eq_getElem?_getD, List.getD_eq_getElem?_getD, List.getElem?_append_right (by rw [List.length_replicate]; exact h), List.length_replicate, List.getElem?_drop]
  congr 2
  omega
theorem zr_set {A : List (List Nat)} (o : TabOk A) {j i : Nat} (hj : j < 4) (hi : i < j + 2) : (zr A j i).set (j + 1 - i) (((A.getD j []).getD (j + 1 - i) 0 : Nat) : Int) = zr A j (i + 1) := by
  refine List.ext_getElem? fun k => ?_
  have l1 := zr_len o (i := i) hj
  have l2 := zr_len o (i := i + 1) hj
  by_cases hk : k < j + 3
  · have e1 : ∀ xs : List Int, k < xs.length → xs[k]? = some (xs.getD k 0) := fun xs h => by rw [List.getD_eq_getElem?_getD, List.getElem?_eq_getElem h]; rfl
    rw [e1 _ (by rw [List.length_set]; omega), e1 _ (by omega)]
    congr 1
    rw [List.getD_eq_getElem?_getD, List.getElem?_set]
    by_cases h2 : j + 1 - i = k
    · rw [if_pos h2, if_pos (by omega), zr_get (by omega), h2]
      rfl
    · rw [if_neg h2, ← List.getD_eq_getElem?_getD]
      by_cases h3 : j + 2 - i ≤ k
      · rw [zr_get h3, zr_get (by omega)]
      · unfold zr
        rw [zi_getD, zi_getD]
        congr 1
        have z : ∀ (n : Nat) (l : List Nat), k < n → (List.replicate n 0 ++ l).getD k 0 = 0 := fun n l hn => by
          rw [List.getD_eq_getElem?_getD, List.getElem?_append_left (by rw [List.length_replicate]; omega), List.getElem?_replicate, if_pos hn]
          rfl
        rw [z _ _ (by omega), z _ _ (by omega)]
  · rw [List.getElem?_eq_none (by rw [List.length_set]; omega), List.getElem?_eq_none (by omega)]
theorem tk_succ {A : List (List Nat)} (o : TabOk A) {j : Nat} (hj : j < 4) : tk A (j + 1) = tk A j ++ [zi (A.getD j [])] := by
  have h : j < A.length := by rw [o.len]; exact hj
  unfold tk
  rw [List.take_add_one, List.map_append, List.getD_eq_getElem?_getD, List.getElem?_eq_getElem h]
  rfl
noncomputable def dl (j m : Nat) : Nat := if and (Nat.beq j 0) (Nat.beq m 1) then 1 else 0
theorem zero_row (n : Nat) : (List.replicate n [D.int 0]).flatten = (List.replicate n (0 : Int)).map D.int := by
  induction n with
  | zero => rfl
  | succ n ih => rw [List.replicate_succ, List.flatten_cons, ih, List.replicate_succ]; rfl
def tT : List (List Nat) := [
 [1, 1, 0],
 [5, 4, 1, 0],
 [60, 50, 16, 2, 0],
 [1105, 960, 350, 64, 5, 0]]
noncomputable def eqT (A : List (List Nat)) (j m : Nat) : Bool := Nat.beq (nth (row A j) m) (Nat.add (Nat.add (Nat.mul (Nat.add m 1) (nth (row A j) (Nat.add m 1))) (sumN A A j m j)) (dl j m))
theorem okT : TabOk tT := tabOk_of (by decide +kernel) (by decide +kernel) (by decide +kernel)
theorem allT : allN (fun j => allN (eqT tT j) (j + 2)) 4 = true := by decide +kernel
abbrev cl (A : List (List Nat)) (j m : Nat) : Int := (((A.getD j []).getD m 0 : Nat) : Int)
theorem cell_T {j m : Nat} (hj : j < 4) (hm : m < j + 2) : ((m : Int) + 1) * cl tT j (m + 1) + pairsM (tk tT j) (tk tT j) j m + (dl j m : Nat) = cl tT j m := by
  have h := Nat.eq_of_beq_eq_true (allN_of (allN_of allT j hj) m hm)
  rw [row_eq, nth_eq, nth_eq] at h
  unfold cl pairsM
  rw [h, sum_eq _ _ _ _ _ (Nat.le_refl _)]
  show _ = ((((m + 1) * (tT.getD j []).getD (m + 1) 0 + sumN tT tT j m j) + dl j m : Nat) : Int)
  rw [Int.natCast_add, Int.natCast_add, Int.natCast_mul]
  rfl
/-! the readings -/
def fd_table : FD := fun ds M _ Q => ∃ n : Nat, ds = [.int n] ∧ M = [] ∧ n ≤ 3 ∧ Q (lli (tk tT (n + 1))) []
theorem len_table : ∀ ds M ED QD, fd_table ds M ED QD → ds.length = 1 := fun ds M ED QD ⟨_, e, _⟩ => by rw [e]; rfl
def td_table : DS :=
  (dSeq (dAsg (dLst true dNil) (dName 1))
  (dSeq (dFor (diRange1 (dCons (dOp (addD false) (dVar 0) (dC (.int 1))) dNil)) (dName 2) (dSeq (dAsg (dOp (mulD true) (dLst false (dCons (dC (.int 0)) dNil)) (dOp (addD false) (dVar 2) (dC (.int 3)))) (dName 3))
  (dSeq (dFor (diRange3 (dCons (dOp (addD false) (dVar 2) (dC (.int 1))) (dCons (dUn negD (dC (.int 1))) (dCons (dUn negD (dC (.int 1))) dNil)))) (dName 4) (dSetIx (dOp (addD false) (dOp (addD false) (dOp (mulD false) (dOp (addD false) (dVar 4) (dC (.int 1))) (dOp ixD (dVar 3) (dOp (addD false) (dVar 4) (dC (.int 1))))) (dCall0 fd_pairs [0] (dCons (dVar 1) (dCons (dVar 1) (dCons (dVar 2) (dCons (dVar 4) dNil)))))) (dCB intD (dCons (dAndV (dOp (eqD false) (dVar 2) (dC (.int 0))) (dOp (eqD false) (dVar 4) (dC (.int 1)))) dNil))) (dVar 3) (dVar 4)))
  (dFrz 3 (dDrop (dApp (dVar 1) (dVar 3)))))))
  (dRet true (dVar 1))))
/-- the names that a turn of the inner loop is at -/
theorem nm_eq {j i : Nat} (h : i < j + 2) : (0 + (j : Nat) * 1 : Int) + 1 + (i : Nat) * (-1) = ((j + 1 - i : Nat) : Int) := by omega
theorem dl_t {j m : Nat} (h : j = 0) : (if decide ((m : Int) = 1) = true then (1 : Int) else 0) = (dl j m : Nat) := by
  subst h
  by_cases e : m = 1
  · subst e; rfl
  · have h1 : decide ((m : Int) = 1) = false := decide_eq_false (by omega)
    have h2 : Nat.beq m 1 = false := Bool.eq_false_iff.mpr fun z => e (Nat.eq_of_beq_eq_true z)
    rw [h1]
    unfold dl
    rw [h2]
    rfl
theorem dl_f {j m : Nat} (h : j ≠ 0) : (0 : Int) = (dl j m : Nat) := by
  unfold dl
  rw [show Nat.beq j 0 = false from Bool.eq_false_iff.mpr fun z => h (Nat.eq_of_beq_eq_true z)]
  rfl
theorem set_i {xs : List Int} {k : Nat} {v w : Int} {ys : List Int} (e : v = w) (h : xs.set k w = ys) : (xs.map D.int).set k (.int v) = ys.map D.int := by
  subst e
  rw [← h, List.map_set]
theorem app_l {xs ys : List (List Int)} {v : List Int} (h : ys = xs ++ [v]) : xs.map li ++ [li v] = ys.map li := by
  subst h
  rw [List.map_append]
  rfl
theorem rd_table0 : ∀ ds M ED QD, fd_table ds M ED QD → td_table (outs M QD) (startD ["most", "rows", "size", "row", "names"] ds) M := by
  rintro ds M ED QD ⟨n, rfl, rfl, hn, h⟩
  refine ⟨small1 0 (by decide), fun p hp => ?_⟩
  refine ⟨_, rfl, (n : Int) + 1, rfl, by omega, by omega, fun j sl M => ∃ a b c, sl = [some (.int n), some (.ref p), a, b, c] ∧ M = [(p, .lst ((tk tT j).map li))], ⟨_, _, _, rfl, rfl⟩, fun _ _ _ _ _ => trivial, ?_, ?_⟩
  · rintro j sl M hj ⟨a, b, c, rfl, rfl⟩
    replace hj : j < ((n : Int) + 1).toNat := hj
    have hj : j < 4 := by omega
    refine ⟨small1 1 (by decide), _, rfl, by show -(2 ^ 63) ≤ (0 + (j : Nat) * 1 : Int) + 3; omega, by show (0 + (j : Nat) * 1 : Int) + 3 < 2 ^ 63; omega, ?_, fun q hq => ?_⟩
    · show 1 * ((0 + (j : Nat) * 1 : Int) + 3).toNat ≤ sizeLine
      exact small1 _ (by omega)
    have e0 : (List.replicate ((0 + (j : Nat) * 1 : Int) + 3).toNat [D.int 0]).flatten = (zr tT j 0).map .int := by rw [zero_row, zr_0 okT hj, show ((0 + (j : Nat) * 1 : Int) + 3).toNat = j + 3 by omega]
    refine ⟨_, rfl, (0 + (j : Nat) * 1 : Int) + 1, -1, -1, _, rfl, RgC.neg (by omega) (by omega) (by decide) (by decide), fun i sl M => ∃ c, sl = [some (.int n), some (.ref p), some (.int (0 + (j : Nat) * 1)), some (.ref q), c] ∧ M = [(p, .lst ((tk tT j).map li)), (q, .lst ((zr tT j i).map .int))], ⟨_, rfl, ?_⟩, fun _ _ _ _ _ => trivial, ?_, ?_⟩
    · rw [← e0]; rfl
    · rintro i sl M hi ⟨c, rfl, rfl⟩
      replace hi : i < ((0 + (j : Nat) * 1 : Int) + 1 - -1).toNat := hi
      have hi : i < j + 2 := by omega
      have en := nm_eq hi
      have lz := zr_len okT (i := i) hj
      have e1 : (0 + (j : Nat) * 1 : Int) + 1 + (i : Nat) * (-1) + 1 = ((j + 1 - i + 1 : Nat) : Int) := by omega
      refine ⟨_, rfl, _, rfl, _, rfl, 1, _, rfl, _, atI_i _ e1 (by omega), .inl (.inl ⟨by show -(2 ^ 64) < (0 + (j : Nat) * 1 : Int) + 1 + (i : Nat) * (-1) + 1; omega, by show (0 + (j : Nat) * 1 : Int) + 1 + (i : Nat) * (-1) + 1 < 2 ^ 64; omega⟩),
        _, rfl, _, rfl, _, rfl, _, rfl, rfl, p, p, 0, 0, tk tT j, tk tT j, j, j + 1 - i, ?_, rfl, rfl, okT.rowsOk (by omega), okT.rowsOk (by omega), by rw [okT.len_tk (by omega)]; exact Nat.le_refl _, by rw [okT.len_tk (by omega)]; exact Nat.le_refl _, by omega, by omega, ?_⟩
      · show [D.ref p, D.ref p, D.int (0 + (j : Nat) * 1), D.int ((0 + (j : Nat) * 1 : Int) + 1 + (i : Nat) * (-1))] = _
        rw [en, show (0 + (j : Nat) * 1 : Int) = j by omega]
      have ec := cell_T (m := j + 1 - i) hj (by omega)
      have ev : ∀ z : Int, z = (dl j (j + 1 - i) : Nat) → ((0 + (j : Nat) * 1 : Int) + 1 + (i : Nat) * (-1) + 1) * (zr tT j i).getD (j + 1 - i + 1) 0 + pairsM (tk tT j) (tk tT j) j (j + 1 - i) + z = cl tT j (j + 1 - i) := fun z ez => by
        rw [ez, zr_get (by omega), en]
        exact ec
      refine ⟨_, rfl, _, rfl, ite2 (fun e => ?_) (fun e => ?_)⟩
      · have h0 : j = 0 := by have := of_decide_eq_true e; omega
        refine ⟨_, rfl, _, rfl, _, rfl, 1, _, rfl, j + 1 - i, ?_, _, rfl, ?_⟩
        · show ixN ((zr tT j i).map D.int).length ((0 + (j : Nat) * 1 : Int) + 1 + (i : Nat) * (-1)) = _
          rw [en, List.length_map]
          exact ixN_nat (by omega)
        · exact congrArg (fun z => [(p, N.lst ((tk tT j).map li)), (q, N.lst z)]) (set_i (ev _ (by rw [en]; exact dl_t h0)) (zr_set okT hj hi))
      · have h0 : j ≠ 0 := fun z => e (decide_eq_true (by omega))
        refine ⟨_, rfl, _, rfl, 1, _, rfl, j + 1 - i, ?_, _, rfl, ?_⟩
        · show ixN ((zr tT j i).map D.int).length ((0 + (j : Nat) * 1 : Int) + 1 + (i : Nat) * (-1)) = _
          rw [en, List.length_map]
          exact ixN_nat (by omega)
        · exact congrArg (fun z => [(p, N.lst ((tk tT j).map li)), (q, N.lst z)]) (set_i (ev _ (dl_f h0)) (zr_set okT hj hi))
    · rintro sl M ⟨c, rfl, rfl⟩
      have hl : (tk tT j).length = j := okT.len_tk (by omega)
      refine ⟨q, 1, _, rfl, rfl, _, rfl, ⟨0, _, rfl⟩, _, rfl, 0, _, rfl, ?_, _, _, _, rfl, ?_⟩
      · show ((tk tT j).map li).length < sizeLine
        rw [List.length_map, hl]
        exact small1000 (by omega)
      · refine congrArg (fun z => [(p, N.lst z)]) (app_l ?_)
        rw [tk_succ okT hj, show (itRange ((0 + (j : Nat) * 1 : Int) + 1) (-1) ((0 + (j : Nat) * 1 : Int) + 1 - -1).toNat).n = j + 2 from by show ((0 + (j : Nat) * 1 : Int) + 1 - -1).toNat = j + 2; omega, zr_n]
  · rintro sl M ⟨a, b, c, rfl, rfl⟩
    refine ⟨_, rfl, 0, _, rfl, ?_⟩
    have e : ((n : Int) + 1).toNat = n + 1 := by omega
    refine .none ?_
    show QD (lli (tk tT ((n : Int) + 1).toNat)) []
    rw [e]
    exact h

open F
noncomputable def ff_table : FF := fun args => match args with
  | [.im (.int n)] => cif (0 ≤ n ∧ n ≤ 3) (.ok (.im (lli (tk tT (n.toNat + 1)))) [.im (.int n)]) .bad
  | _ => .bad
theorem table_inv {args : List Sv} {r : Rs} (h : ff_table args = r) (hb : r ≠ .bad) : ∃ n, args = [.im (.int n)] ∧ (0 ≤ n ∧ n ≤ 3) ∧ r = .ok (.im (lli (tk tT (n.toNat + 1)))) [.im (.int n)] := by
  unfold ff_table at h
  split at h
  · rename_i n
    by_cases hh : 0 ≤ n ∧ n ≤ 3
    · rw [cif_pos hh] at h; exact ⟨n, rfl, hh, h.symm⟩
    · rw [cif_neg hh] at h; exact absurd h.symm hb
  · exact absurd h.symm hb
theorem rd_table : ∀ ds M ED QD, fdN 1 ff_table ds M ED QD → td_table (outs M QD) (startD ["most", "rows", "size", "row", "names"] ds) M := by
  rintro ds M ED QD ⟨nd, args, Es, ha, he, rfl, h⟩
  refine rd_table0 _ _ ED _ ?_
  have hb : ff_table args ≠ .bad := fun z => by rw [z] at h; exact h
  obtain ⟨n, rfl, hh, e⟩ := table_inv rfl hb
  rw [e] at h
  cases he with
  | cons h1 h2 =>
    cases h2
    obtain ⟨rfl, rfl⟩ := h1
    refine ⟨n.toNat, by rw [show ((n.toNat : Nat) : Int) = n by omega], rfl, by omega, ?_⟩
    have := h (lli (tk tT (n.toNat + 1))) [] [[]] (.cons ⟨rfl, rfl⟩ .nil) rfl ⟨rfl, rfl⟩
    simpa using this
end Once

/-! FP1: all defs, as plain functions. -/
namespace Once
open PySem PySem.Spec L2 OD F
/-- the addresses of the law -/
structure Cs where
  Program : Addr
  RawProgram : Addr
def Cs.P (c : Cs) (C : Addr) : Prop := C = c.Program ∨ C = c.RawProgram
def Cs.Pb (c : Cs) (C : Addr) : Bool := C == c.Program || C == c.RawProgram
theorem Cs.hP (c : Cs) (C : Addr) (h : c.Pb C = true) : c.P C := by
  unfold Cs.Pb at h
  simp only [Bool.or_eq_true, beq_iff_eq] at h
  unfold Cs.P
  simpa [or_assoc] using h
def Cs.rel (c : Cs) (t : Value) (D : Addr) : Option Bool := match t with
  | .ref C => if (C = c.Program ∧ D = c.Program) ∨ (C = c.RawProgram ∧ D = c.Program) ∨ (C = c.RawProgram ∧ D = c.RawProgram) then some true else none
  | _ => none
noncomputable def fb_law_choices_1 (ff : FF) : FS :=
  (fDrop (fApp 2 (fOp addF (oE (fTup (fCons (fVar 3) fNil))) (oV 4))))
noncomputable def fb_law_choices_2 (ff : FF) : FS :=
  (fFor (iSeq (fCall 2 ff (rE (fOp addF (oV 3) (oE (fC (.int 1)))) (rO 1 rNil)))) (gName 4) (fb_law_choices_1 ff))
noncomputable def fb_law_choices (ff : FF) : FS :=
  (fSeq (fAsg (fLstN (fCons (fTup fNil) fNil)) 2)
  (fSeq (fFor (iRg rg2F (fCons (fVar 0) (fCons (fVar 1) fNil))) (gName 3) (fb_law_choices_2 ff))
  (fRetZ 2)))
noncomputable def ff_law_choices : FF := fRec 2 3 (fb_law_choices) 100
def td_law_choices (ff : FF) : DS :=
  (dSeq (dAsg (dLst true (dCons (dTup dNil) dNil)) (dName 2))
  (dSeq (dFor (diRange2 (dCons (dVar 0) (dCons (dVar 1) dNil))) (dName 3) (dFor (diSeq (dCallN (fdN 2 ff) (dCons (dOp (addD false) (dVar 3) (dC (.int 1))) (dCons (dVar 1) dNil)))) (dName 4) (dDrop (dApp (dVar 2) (dOp (addD false) (dTup (dCons (dVar 3) dNil)) (dVar 4))))))
  (dRet true (dVar 2))))
theorem sm_law_choices (ff : FF) : SimS 2 (fb_law_choices ff) (td_law_choices ff) :=
  (s_seq (s_asg (s_lstN (a_cons (s_tup a_nil) a_nil)) (by decide))
  (s_seq (s_for (i_range2 (a_cons (s_var 0) (a_cons (s_var 1) a_nil))) (g_name 3) (s_for (i_seq (s_call (r_e (s_op addF_ok (o_v 3) (o_e (s_c _))) (r_o r_nil)))) (g_name 4) (s_drop (s_app (s_op addF_ok (o_e (s_tup (a_cons (s_var 3) a_nil))) (o_v 4))))))
  (s_retZ (by decide))))
noncomputable def fb_law_all_1 (ff : FF) : FS :=
  (fDrop (fApp 3 (fOp addF (oE (fTup (fCons (fOp addF (oE (fC (.str "/"))) (oV 5)) fNil))) (oV 6))))
noncomputable def fb_law_all_2 (ff : FF) : FS :=
  (fDrop (fApp 3 (fOp addF (oE (fOp addF (oE (fTup (fCons (fC (.str "@")) fNil))) (oV 11))) (oV 12))))
noncomputable def fb_law_all_3 (ff : FF) : FS :=
  (fFor (iSeq (fVar 10)) (gName 12) (fb_law_all_2 ff))
noncomputable def fb_law_all_4 (ff : FF) : FS :=
  (fIfS (fAnd (fTest (fOp leF (oE (fCB lenF (lCons (oV 7) lNil))) (oE (fOp addF (oV 4) (oE (fC (.int 1))))))) (fTest (fOp leF (oE (fOp subF (oE (fCB lenF (lCons (oV 0) lNil))) (oE (fCB lenF (lCons (oV 7) lNil))))) (oE (fOp subF (oV 1) (oV 4)))))) (fSeq (fAsg (fCB tupleF (lCons (oE (fLc (iSeq (fVar 7)) [13] (gName 13) tYes (fOp ixF (oV 0) (oV 13)))) lNil)) 8)
  (fSeq (fAsg (fCB tupleF (lCons (oE (fLc (iSeq (fVar 0)) [5] (gName 5) (fTest (fOp (inF true) (oV 5) (oV 8))) (fVar 5))) lNil)) 9)
  (fSeq (fAsg (fCall 3 ff (rO 9 (rE (fOp subF (oE (fOp subF (oV 1) (oE (fC (.int 1))))) (oV 4)) (rE (fOp addF (oV 2) (oE (fC (.str "r")))) rNil)))) 10)
  (fFor (iSeq (fCall 3 ff (rO 8 (rO 4 (rE (fOp addF (oV 2) (oE (fC (.str "l")))) rNil))))) (gName 11) (fb_law_all_3 ff))))) fNext)
noncomputable def fb_law_all_5 (ff : FF) : FS :=
  (fFor (iSeq (fCall 2 ff_law_choices (rE (fC (.int 0)) (rE (fCB lenF (lCons (oV 0) lNil)) rNil)))) (gName 7) (fb_law_all_4 ff))
noncomputable def fb_law_all (ff : FF) : FS :=
  (fSeq (fAsg (fLstN fNil) 3)
  (fSeq (fIfS (fAnd (fTest (fOp (eqF false) (oV 1) (oE (fC (.int 0))))) (fTest (fOp (eqF false) (oE (fCB lenF (lCons (oV 0) lNil))) (oE (fC (.int 1)))))) (fDrop (fApp 3 (fTup (fCons (fOp ixF (oV 0) (oE (fC (.int 0)))) fNil)))) fNext)
  (fSeq (fIfS (fTest (fOp leF (oE (fCB lenF (lCons (oV 0) lNil))) (oV 1))) (fSeq (fAsg (fOp addF (oV 2) (oE (fC (.str "n")))) 5)
  (fFor (iSeq (fCall 3 ff (rE (fOp addF (oV 0) (oE (fTup (fCons (fVar 5) fNil)))) (rO 1 (rE (fOp addF (oV 2) (oE (fC (.str "t")))) rNil))))) (gName 6) (fb_law_all_1 ff))) fNext)
  (fSeq (fFor (iRg rg1F (fCons (fVar 1) fNil)) (gName 4) (fb_law_all_5 ff))
  (fRetZ 3)))))
noncomputable def ff_law_all : FF := fRec 3 11 (fb_law_all) 100
def td_law_all (ff : FF) : DS :=
  (dSeq (dAsg (dLst true dNil) (dName 3))
  (dSeq (dIfS (dAnd (dTest (dOp (eqD false) (dVar 1) (dC (.int 0)))) (dTest (dOp (eqD false) (dCB lenD (dCons (dVar 0) dNil)) (dC (.int 1))))) (dDrop (dApp (dVar 3) (dTup (dCons (dOp ixD (dVar 0) (dC (.int 0))) dNil)))) dNext)
  (dSeq (dIfS (dTest (dOp leD (dCB lenD (dCons (dVar 0) dNil)) (dVar 1))) (dSeq (dAsg (dOp (addD false) (dVar 2) (dC (.str "n"))) (dName 5))
  (dFor (diSeq (dCallN (fdN 3 ff) (dCons (dOp (addD false) (dVar 0) (dTup (dCons (dVar 5) dNil))) (dCons (dVar 1) (dCons (dOp (addD false) (dVar 2) (dC (.str "t"))) dNil))))) (dName 6) (dDrop (dApp (dVar 3) (dOp (addD false) (dTup (dCons (dOp (addD false) (dC (.str "/")) (dVar 5)) dNil)) (dVar 6)))))) dNext)
  (dSeq (dFor (diRange1 (dCons (dVar 1) dNil)) (dName 4) (dFor (diSeq (dCallN (fdN 2 ff_law_choices) (dCons (dC (.int 0)) (dCons (dCB lenD (dCons (dVar 0) dNil)) dNil)))) (dName 7) (dIfS (dAnd (dTest (dOp leD (dCB lenD (dCons (dVar 7) dNil)) (dOp (addD false) (dVar 4) (dC (.int 1))))) (dTest (dOp leD (dOp subD (dCB lenD (dCons (dVar 0) dNil)) (dCB lenD (dCons (dVar 7) dNil))) (dOp subD (dVar 1) (dVar 4))))) (dSeq (dAsg (dCB tupleD (dCons (dLc false (diSeq (dVar 7)) [13] (dName 13) dYes (dOp ixD (dVar 0) (dVar 13))) dNil)) (dName 8))
  (dSeq (dAsg (dCB tupleD (dCons (dLc false (diSeq (dVar 0)) [5] (dName 5) (dTest (dOp (inD true) (dVar 5) (dVar 8))) (dVar 5)) dNil)) (dName 9))
  (dSeq (dAsg (dCallN (fdN 3 ff) (dCons (dVar 9) (dCons (dOp subD (dOp subD (dVar 1) (dC (.int 1))) (dVar 4)) (dCons (dOp (addD false) (dVar 2) (dC (.str "r"))) dNil)))) (dName 10))
  (dFor (diSeq (dCallN (fdN 3 ff) (dCons (dVar 8) (dCons (dVar 4) (dCons (dOp (addD false) (dVar 2) (dC (.str "l"))) dNil))))) (dName 11) (dFor (diSeq (dVar 10)) (dName 12) (dDrop (dApp (dVar 3) (dOp (addD false) (dOp (addD false) (dTup (dCons (dC (.str "@")) dNil)) (dVar 11)) (dVar 12))))))))) dNext)))
  (dRet true (dVar 3))))))
theorem sm_law_all (ff : FF) : SimS 3 (fb_law_all ff) (td_law_all ff) :=
  (s_seq (s_asg (s_lstN a_nil) (by decide))
  (s_seq (s_ifS (t_and (t_test (s_op eqF_ok (o_v 1) (o_e (s_c _)))) (t_test (s_op eqF_ok (o_e (s_callB lenF_ok (l_cons (o_v 0) l_nil))) (o_e (s_c _))))) (s_drop (s_app (s_tup (a_cons (s_op ixF_ok (o_v 0) (o_e (s_c _))) a_nil)))) s_next)
  (s_seq (s_ifS (t_test (s_op ordF_ok (o_e (s_callB lenF_ok (l_cons (o_v 0) l_nil))) (o_v 1))) (s_seq (s_asg (s_op addF_ok (o_v 2) (o_e (s_c _))) (by decide))
  (s_for (i_seq (s_call (r_e (s_op addF_ok (o_v 0) (o_e (s_tup (a_cons (s_var 5) a_nil)))) (r_o (r_e (s_op addF_ok (o_v 2) (o_e (s_c _))) r_nil))))) (g_name 6) (s_drop (s_app (s_op addF_ok (o_e (s_tup (a_cons (s_op addF_ok (o_e (s_c _)) (o_v 5)) a_nil))) (o_v 6)))))) s_next)
  (s_seq (s_for (i_range1 (a_cons (s_var 1) a_nil)) (g_name 4) (s_for (i_seq (s_call (r_e (s_c _) (r_e (s_callB lenF_ok (l_cons (o_v 0) l_nil)) r_nil)))) (g_name 7) (s_ifS (t_and (t_test (s_op ordF_ok (o_e (s_callB lenF_ok (l_cons (o_v 7) l_nil))) (o_e (s_op addF_ok (o_v 4) (o_e (s_c _)))))) (t_test (s_op ordF_ok (o_e (s_op subF_ok (o_e (s_callB lenF_ok (l_cons (o_v 0) l_nil))) (o_e (s_callB lenF_ok (l_cons (o_v 7) l_nil))))) (o_e (s_op subF_ok (o_v 1) (o_v 4)))))) (s_seq (s_asg (s_callB tupleF_ok (l_cons (o_e (s_lc (i_seq (s_var 7)) (g_name 13) t_yes (s_op ixF_ok (o_v 0) (o_v 13)))) l_nil)) (by decide))
  (s_seq (s_asg (s_callB tupleF_ok (l_cons (o_e (s_lc (i_seq (s_var 0)) (g_name 5) (t_test (s_op inF_ok (o_v 5) (o_v 8))) (s_var 5))) l_nil)) (by decide))
  (s_seq (s_asg (s_call (r_o (r_e (s_op subF_ok (o_e (s_op subF_ok (o_v 1) (o_e (s_c _)))) (o_v 4)) (r_e (s_op addF_ok (o_v 2) (o_e (s_c _))) r_nil)))) (by decide))
  (s_for (i_seq (s_call (r_o (r_o (r_e (s_op addF_ok (o_v 2) (o_e (s_c _))) r_nil))))) (g_name 11) (s_for (i_seq (s_var 10)) (g_name 12) (s_drop (s_app (s_op addF_ok (o_e (s_op addF_ok (o_e (s_tup (a_cons (s_c _) a_nil))) (o_v 11))) (o_v 12))))))))) s_next)))
  (s_retZ (by decide))))))
noncomputable def fb_law_letters_1 : FS :=
  (fSeq (fAsg (fOp subF (oV 2) (oE (fC (.int 1)))) 2)
  (fSeq (fAsg (fOp addF (oE (fOp ixF (oE (fC (.str "abcdefghijklmnopqrstuvwxyz"))) (oE (fOp modF (oE (fCB intF (lCons (oV 2) lNil))) (oE (fC (.int 26))))))) (oV 1)) 1)
  (fAsg (fOp divF (oV 2) (oE (fC (.int 26)))) 2)))
noncomputable def fb_law_letters : FS :=
  (fSeq (fAsg (fC (.str "")) 1)
  (fSeq (fAsg (fOp addF (oV 0) (oE (fC (.int 1)))) 2)
  (fSeq (fWhile (fTest (fOp gtF (oV 2) (oE (fC (.int 0))))) fb_law_letters_1)
  (fRet (fVar 1)))))
noncomputable def ff_law_letters : FF := fDef 1 2 (fb_law_letters)
def td_law_letters : DS :=
  (dSeq (dAsg (dC (.str "")) (dName 1))
  (dSeq (dAsg (dOp (addD false) (dVar 0) (dC (.int 1))) (dName 2))
  (dSeq (dWhile (dTest (dOp gtD (dVar 2) (dC (.int 0)))) (dSeq (dAsg (dOp subD (dVar 2) (dC (.int 1))) (dName 2))
  (dSeq (dAsg (dOp (addD false) (dOp ixD (dC (.str "abcdefghijklmnopqrstuvwxyz")) (dOp modD (dCB intD (dCons (dVar 2) dNil)) (dC (.int 26)))) (dVar 1)) (dName 1))
  (dAsg (dOp divD (dVar 2) (dC (.int 26))) (dName 2)))))
  (dRet false (dVar 1)))))
theorem sm_law_letters : SimS 1 (fb_law_letters) (td_law_letters) :=
  (s_seq (s_asg (s_c _) (by decide))
  (s_seq (s_asg (s_op addF_ok (o_v 0) (o_e (s_c _))) (by decide))
  (s_seq (s_while (t_test (s_op ordF_ok (o_v 2) (o_e (s_c _)))) (s_seq (s_asg (s_op subF_ok (o_v 2) (o_e (s_c _))) (by decide))
  (s_seq (s_asg (s_op addF_ok (o_e (s_op ixF_ok (o_e (s_c _)) (o_e (s_op modF_ok (o_e (s_callB intF_ok (l_cons (o_v 2) l_nil))) (o_e (s_c _)))))) (o_v 1)) (by decide))
  (s_asg (s_op divF_ok (o_v 2) (o_e (s_c _))) (by decide)))))
  (s_ret (s_var 1)))))
noncomputable def fb_law_standard_1 : FS :=
  (fIfS (fTest (fOp (eqF false) (oE (fSl (oV 2) pNo (pSo (fC (.int 1))))) (oE (fC (.str "/"))))) (fSetIx 1 (fSl (oV 2) (pSo (fC (.int 1))) pNo) (fCall 1 ff_law_letters (rE (fCB lenF (lCons (oV 1) lNil)) rNil))) fNext)
noncomputable def fb_law_standard_2 : FS :=
  (fIfS (fTest (fOp (eqF false) (oV 2) (oE (fC (.str "@"))))) (fAsg (fOp addF (oV 3) (oE (fTup (fCons (fVar 2) fNil)))) 3) (fAsg (fOp addF (oV 3) (oE (fIf (fTest (fOp (eqF false) (oE (fSl (oV 2) pNo (pSo (fC (.int 1))))) (oE (fC (.str "/"))))) (fTup (fCons (fOp addF (oE (fC (.str "/"))) (oE (fOp ixF (oV 1) (oE (fSl (oV 2) (pSo (fC (.int 1))) pNo))))) fNil)) (fTup (fCons (fOp ixF (oV 1) (oV 2)) fNil))))) 3))
noncomputable def fb_law_standard : FS :=
  (fSeq (fAsg fDicN 1)
  (fSeq (fFor (iSeq (fVar 0)) (gName 2) fb_law_standard_1)
  (fSeq (fAsg (fTup fNil) 3)
  (fSeq (fFor (iSeq (fVar 0)) (gName 2) fb_law_standard_2)
  (fRet (fVar 3))))))
noncomputable def ff_law_standard : FF := fDef 1 3 (fb_law_standard)
def td_law_standard : DS :=
  (dSeq (dAsg (dDic0 true) (dName 1))
  (dSeq (dFor (diSeq (dVar 0)) (dName 2) (dIfS (dTest (dOp (eqD false) (dSl false (dVar 2) dNoPart (dPart (dC (.int 1)))) (dC (.str "/")))) (dSetIx (dCallN (fdN 1 ff_law_letters) (dCons (dCB lenD (dCons (dVar 1) dNil)) dNil)) (dVar 1) (dSl false (dVar 2) (dPart (dC (.int 1))) dNoPart)) dNext))
  (dSeq (dAsg (dTup dNil) (dName 3))
  (dSeq (dFor (diSeq (dVar 0)) (dName 2) (dIfS (dTest (dOp (eqD false) (dVar 2) (dC (.str "@")))) (dAsg (dOp (addD false) (dVar 3) (dTup (dCons (dVar 2) dNil))) (dName 3)) (dAsg (dOp (addD false) (dVar 3) (dIf (dTest (dOp (eqD false) (dSl false (dVar 2) dNoPart (dPart (dC (.int 1)))) (dC (.str "/")))) (dTup (dCons (dOp (addD false) (dC (.str "/")) (dOp ixD (dVar 1) (dSl false (dVar 2) (dPart (dC (.int 1))) dNoPart))) dNil)) (dTup (dCons (dOp ixD (dVar 1) (dVar 2)) dNil)))) (dName 3))))
  (dRet false (dVar 3))))))
theorem sm_law_standard : SimS 1 (fb_law_standard) (td_law_standard) :=
  (s_seq (s_asg s_dicN (by decide))
  (s_seq (s_for (i_seq (s_var 0)) (g_name 2) (s_ifS (t_test (s_op eqF_ok (o_e (s_sl (o_v 2) p_no (p_so (s_c _)))) (o_e (s_c _)))) (s_setIx (s_call (r_e (s_callB lenF_ok (l_cons (o_v 1) l_nil)) r_nil)) (s_sl (o_v 2) (p_so (s_c _)) p_no)) s_next))
  (s_seq (s_asg (s_tup a_nil) (by decide))
  (s_seq (s_for (i_seq (s_var 0)) (g_name 2) (s_ifS (t_test (s_op eqF_ok (o_v 2) (o_e (s_c _)))) (s_asg (s_op addF_ok (o_v 3) (o_e (s_tup (a_cons (s_var 2) a_nil)))) (by decide)) (s_asg (s_op addF_ok (o_v 3) (o_e (s_if (t_test (s_op eqF_ok (o_e (s_sl (o_v 2) p_no (p_so (s_c _)))) (o_e (s_c _)))) (s_tup (a_cons (s_op addF_ok (o_e (s_c _)) (o_e (s_op ixF_ok (o_v 1) (o_e (s_sl (o_v 2) (p_so (s_c _)) p_no))))) a_nil)) (s_tup (a_cons (s_op ixF_ok (o_v 1) (o_v 2)) a_nil))))) (by decide))))
  (s_ret (s_var 3))))))
noncomputable def fb_is_integer : FS :=
  (fRet (fAndV (fCB isiF (lCons (oV 0) (lCons (oE (fC (.ty "int"))) lNil))) (fNotV (fCB isiF (lCons (oV 0) (lCons (oE (fC (.ty "bool"))) lNil))))))
noncomputable def ff_is_integer : FF := fDef 1 0 (fb_is_integer)
def td_is_integer : DS :=
  (dRet false (dAndV (dCB isiD (dCons (dVar 0) (dCons (dC (.ty "int")) dNil))) (dNotV (dCB isiD (dCons (dVar 0) (dCons (dC (.ty "bool")) dNil))))))
theorem sm_is_integer : SimS 1 (fb_is_integer) (td_is_integer) :=
  (s_ret (s_andV (s_callB isiF_ok (l_cons (o_v 0) (l_cons (o_e (s_c _)) l_nil))) (s_notV (s_callB isiF_ok (l_cons (o_v 0) (l_cons (o_e (s_c _)) l_nil))))))
noncomputable def fb_is_within : FS :=
  (fRet (fAndV (fCall 1 ff_is_integer (rO 0 rNil)) (fChain leF leF (oV 1) (oV 0) (oV 2))))
noncomputable def ff_is_within : FF := fDef 3 0 (fb_is_within)
def td_is_within : DS :=
  (dRet false (dAndV (dCallN (fdN 1 ff_is_integer) (dCons (dVar 0) dNil)) (dChain leD leD (dVar 1) (dVar 0) (dVar 2))))
theorem sm_is_within : SimS 3 (fb_is_within) (td_is_within) :=
  (s_ret (s_andV (s_call (r_o r_nil)) (s_chain ordF_ok ordF_ok (o_v 1) (o_v 0) (o_v 2))))
noncomputable def fb_check_number : FS :=
  (fIfS (fNot (fTru (oE (fCall 3 ff_is_within (rO 0 (rO 1 (rO 2 rNil))))))) fNever fNext)
noncomputable def ff_check_number : FF := fDef 3 0 (fb_check_number)
def td_check_number : DS :=
  (dIfS (dNot (dTru (dCallN (fdN 3 ff_is_within) (dCons (dVar 0) (dCons (dVar 1) (dCons (dVar 2) dNil)))))) dNever dNext)
theorem sm_check_number : SimS 3 (fb_check_number) (td_check_number) :=
  (s_ifS (t_not (t_tru (fun _ _ _ h => h) (o_e (s_call (r_o (r_o (r_o r_nil))))))) s_never s_next)
noncomputable def fb_check_counts : FS :=
  (fSeq (fDrop (fCall 3 ff_check_number (rO 0 (rE (fC (.int 0)) (rE (fC (.int 40)) rNil)))))
  (fDrop (fCall 3 ff_check_number (rO 1 (rE (fC (.int 0)) (rE (fC (.int 40)) rNil))))))
noncomputable def ff_check_counts : FF := fDef 2 0 (fb_check_counts)
def td_check_counts : DS :=
  (dSeq (dDrop (dCallN (fdN 3 ff_check_number) (dCons (dVar 0) (dCons (dC (.int 0)) (dCons (dC (.int 40)) dNil)))))
  (dDrop (dCallN (fdN 3 ff_check_number) (dCons (dVar 1) (dCons (dC (.int 0)) (dCons (dC (.int 40)) dNil))))))
theorem sm_check_counts : SimS 2 (fb_check_counts) (td_check_counts) :=
  (s_seq (s_drop (s_call (r_o (r_e (s_c _) (r_e (s_c _) r_nil)))))
  (s_drop (s_call (r_o (r_e (s_c _) (r_e (s_c _) r_nil))))))
noncomputable def fb_factorial_of_1 : FS :=
  (fAsg (fOp mulF (oV 1) (oV 2)) 1)
noncomputable def fb_factorial_of : FS :=
  (fSeq (fAsg (fC (.int 1)) 1)
  (fSeq (fFor (iRg rg2F (fCons (fC (.int 2)) (fCons (fOp addF (oV 0) (oE (fC (.int 1)))) fNil))) (gName 2) fb_factorial_of_1)
  (fRet (fVar 1))))
noncomputable def ff_factorial_of : FF := fDef 1 2 (fb_factorial_of)
def td_factorial_of : DS :=
  (dSeq (dAsg (dC (.int 1)) (dName 1))
  (dSeq (dFor (diRange2 (dCons (dC (.int 2)) (dCons (dOp (addD false) (dVar 0) (dC (.int 1))) dNil))) (dName 2) (dAsg (dOp (mulD false) (dVar 1) (dVar 2)) (dName 1)))
  (dRet false (dVar 1))))
theorem sm_factorial_of : SimS 1 (fb_factorial_of) (td_factorial_of) :=
  (s_seq (s_asg (s_c _) (by decide))
  (s_seq (s_for (i_range2 (a_cons (s_c _) (a_cons (s_op addF_ok (o_v 0) (o_e (s_c _))) a_nil))) (g_name 2) (s_asg (s_op mulF_ok (o_v 1) (o_v 2)) (by decide)))
  (s_ret (s_var 1))))
noncomputable def fb_many : FS :=
  (fSeq (fDrop (fCall 2 ff_check_counts (rO 0 (rO 1 rNil))))
  (fRet (fIf (fTest (fOp leF (oV 1) (oE (fOp addF (oV 0) (oE (fC (.int 1))))))) (fOp mulF (oE (fOp ixF (oE (fOp ixF (oE (fCall 1 ff_table (rO 0 rNil))) (oV 0))) (oV 1))) (oE (fCall 1 ff_factorial_of (rO 1 rNil)))) (fC (.int 0)))))
noncomputable def ff_many : FF := fDef 2 0 (fb_many)
def td_many : DS :=
  (dSeq (dDrop (dCallN (fdN 2 ff_check_counts) (dCons (dVar 0) (dCons (dVar 1) dNil))))
  (dRet false (dIf (dTest (dOp leD (dVar 1) (dOp (addD false) (dVar 0) (dC (.int 1))))) (dOp (mulD false) (dOp ixD (dOp ixD (dCallN (fdN 1 ff_table) (dCons (dVar 0) dNil)) (dVar 0)) (dVar 1)) (dCallN (fdN 1 ff_factorial_of) (dCons (dVar 1) dNil))) (dC (.int 0)))))
theorem sm_many : SimS 2 (fb_many) (td_many) :=
  (s_seq (s_drop (s_call (r_o (r_o r_nil))))
  (s_ret (s_if (t_test (s_op ordF_ok (o_v 1) (o_e (s_op addF_ok (o_v 0) (o_e (s_c _)))))) (s_op mulF_ok (o_e (s_op ixF_ok (o_e (s_op ixF_ok (o_e (s_call (r_o r_nil))) (o_v 0))) (o_v 1))) (o_e (s_call (r_o r_nil)))) (s_c _))))
noncomputable def fb_labelled : FS :=
  (fRet (fLc (iSeq (fCall 1 ff_table (rO 0 rNil))) [1] (gName 1) tYes (fLc (iEnum (fCons (fVar 1) fNil)) [2, 3] (gTup 2 (gCons (gName 2) (gCons (gName 3) gNil))) tYes (fOp mulF (oV 3) (oE (fCall 1 ff_factorial_of (rO 2 rNil)))))))
noncomputable def ff_labelled : FF := fDef 1 3 (fb_labelled)
def td_labelled : DS :=
  (dRet false (dLc false (diSeq (dCallN (fdN 1 ff_table) (dCons (dVar 0) dNil))) [1] (dName 1) dYes (dLc false (diEnum (dCons (dVar 1) dNil)) [2, 3] (dgTup 2 (dgCons (dName 2) (dgCons (dName 3) dgNil))) dYes (dOp (mulD false) (dVar 3) (dCallN (fdN 1 ff_factorial_of) (dCons (dVar 2) dNil))))))
theorem sm_labelled : SimS 1 (fb_labelled) (td_labelled) :=
  (s_ret (s_lc (i_seq (s_call (r_o r_nil))) (g_name 1) t_yes (s_lc (i_enum (a_cons (s_var 1) a_nil)) (g_tup (g_cons (g_name 2) (g_cons (g_name 3) g_nil))) t_yes (s_op mulF_ok (o_v 3) (o_e (s_call (r_o r_nil)))))))
noncomputable def fb_letters_name_1 : FS :=
  (fSeq (fAug 2 subF (oE (fC (.int 1))))
  (fSeq (fAsg (fOp addF (oE (fOp ixF (oE (fC (.str "abcdefghijklmnopqrstuvwxyz"))) (oE (fOp modF (oV 2) (oE (fC (.int 26))))))) (oV 1)) 1)
  (fAsg (fOp divF (oV 2) (oE (fC (.int 26)))) 2)))
noncomputable def fb_letters_name : FS :=
  (fSeq (fAsg (fC (.str "")) 1)
  (fSeq (fAsg (fOp addF (oV 0) (oE (fC (.int 1)))) 2)
  (fSeq (fWhile (fTest (fOp gtF (oV 2) (oE (fC (.int 0))))) fb_letters_name_1)
  (fRet (fVar 1)))))
noncomputable def ff_letters_name : FF := fDef 1 2 (fb_letters_name)
def td_letters_name : DS :=
  (dSeq (dAsg (dC (.str "")) (dName 1))
  (dSeq (dAsg (dOp (addD false) (dVar 0) (dC (.int 1))) (dName 2))
  (dSeq (dWhile (dTest (dOp gtD (dVar 2) (dC (.int 0)))) (dSeq (dAug 2 subD (dC (.int 1)))
  (dSeq (dAsg (dOp (addD false) (dOp ixD (dC (.str "abcdefghijklmnopqrstuvwxyz")) (dOp modD (dVar 2) (dC (.int 26)))) (dVar 1)) (dName 1))
  (dAsg (dOp divD (dVar 2) (dC (.int 26))) (dName 2)))))
  (dRet false (dVar 1)))))
theorem sm_letters_name : SimS 1 (fb_letters_name) (td_letters_name) :=
  (s_seq (s_asg (s_c _) (by decide))
  (s_seq (s_asg (s_op addF_ok (o_v 0) (o_e (s_c _))) (by decide))
  (s_seq (s_while (t_test (s_op ordF_ok (o_v 2) (o_e (s_c _)))) (s_seq (s_aug subF_ok (o_e (s_c _)))
  (s_seq (s_asg (s_op addF_ok (o_e (s_op ixF_ok (o_e (s_c _)) (o_e (s_op modF_ok (o_v 2) (o_e (s_c _)))))) (o_v 1)) (by decide))
  (s_asg (s_op divF_ok (o_v 2) (o_e (s_c _))) (by decide)))))
  (s_ret (s_var 1)))))
noncomputable def fb_is_take : FS :=
  (fRet (fOp (eqF false) (oE (fSl (oV 0) pNo (pSo (fC (.int 1))))) (oE (fC (.str "/")))))
noncomputable def ff_is_take : FF := fDef 1 0 (fb_is_take)
def td_is_take : DS :=
  (dRet false (dOp (eqD false) (dSl false (dVar 0) dNoPart (dPart (dC (.int 1)))) (dC (.str "/"))))
theorem sm_is_take : SimS 1 (fb_is_take) (td_is_take) :=
  (s_ret (s_op eqF_ok (o_e (s_sl (o_v 0) p_no (p_so (s_c _)))) (o_e (s_c _))))
noncomputable def fb_choose_1 : FS :=
  (fAsg (fOp divF (oE (fOp mulF (oV 2) (oE (fOp subF (oV 0) (oV 3))))) (oE (fOp addF (oV 3) (oE (fC (.int 1)))))) 2)
noncomputable def fb_choose : FS :=
  (fSeq (fAsg (fC (.int 1)) 2)
  (fSeq (fFor (iRg rg1F (fCons (fVar 1) fNil)) (gName 3) fb_choose_1)
  (fRet (fVar 2))))
noncomputable def ff_choose : FF := fDef 2 2 (fb_choose)
def td_choose : DS :=
  (dSeq (dAsg (dC (.int 1)) (dName 2))
  (dSeq (dFor (diRange1 (dCons (dVar 1) dNil)) (dName 3) (dAsg (dOp divD (dOp (mulD false) (dVar 2) (dOp subD (dVar 0) (dVar 3))) (dOp (addD false) (dVar 3) (dC (.int 1)))) (dName 2)))
  (dRet false (dVar 2))))
theorem sm_choose : SimS 2 (fb_choose) (td_choose) :=
  (s_seq (s_asg (s_c _) (by decide))
  (s_seq (s_for (i_range1 (a_cons (s_var 1) a_nil)) (g_name 3) (s_asg (s_op divF_ok (o_e (s_op mulF_ok (o_v 2) (o_e (s_op subF_ok (o_v 0) (o_v 3))))) (o_e (s_op addF_ok (o_v 3) (o_e (s_c _))))) (by decide)))
  (s_ret (s_var 2))))
noncomputable def fb_weight : FS :=
  (fSeq (fIfS (fOr (fTest (fOp gtF (oV 4) (oE (fOp addF (oV 3) (oE (fC (.int 1))))))) (fTest (fOp gtF (oE (fOp subF (oV 2) (oV 4))) (oE (fOp subF (oV 1) (oV 3)))))) (fRet (fC (.int 0))) fNext)
  (fRet (fOp mulF (oE (fOp ixF (oE (fOp ixF (oV 0) (oV 3))) (oV 4))) (oE (fOp ixF (oE (fOp ixF (oV 0) (oE (fOp subF (oE (fOp subF (oV 1) (oE (fC (.int 1))))) (oV 3))))) (oE (fOp subF (oV 2) (oV 4))))))))
noncomputable def ff_weight : FF := fDef 5 0 (fb_weight)
def td_weight : DS :=
  (dSeq (dIfS (dOr (dTest (dOp gtD (dVar 4) (dOp (addD false) (dVar 3) (dC (.int 1))))) (dTest (dOp gtD (dOp subD (dVar 2) (dVar 4)) (dOp subD (dVar 1) (dVar 3))))) (dRet false (dC (.int 0))) dNext)
  (dRet false (dOp (mulD false) (dOp ixD (dOp ixD (dVar 0) (dVar 3)) (dVar 4)) (dOp ixD (dOp ixD (dVar 0) (dOp subD (dOp subD (dVar 1) (dC (.int 1))) (dVar 3))) (dOp subD (dVar 2) (dVar 4))))))
theorem sm_weight : SimS 5 (fb_weight) (td_weight) :=
  (s_seq (s_ifS (t_or (t_test (s_op ordF_ok (o_v 4) (o_e (s_op addF_ok (o_v 3) (o_e (s_c _)))))) (t_test (s_op ordF_ok (o_e (s_op subF_ok (o_v 2) (o_v 4))) (o_e (s_op subF_ok (o_v 1) (o_v 3)))))) (s_ret (s_c _)) s_next)
  (s_ret (s_op mulF_ok (o_e (s_op ixF_ok (o_e (s_op ixF_ok (o_v 0) (o_v 3))) (o_v 4))) (o_e (s_op ixF_ok (o_e (s_op ixF_ok (o_v 0) (o_e (s_op subF_ok (o_e (s_op subF_ok (o_v 1) (o_e (s_c _)))) (o_v 3))))) (o_e (s_op subF_ok (o_v 2) (o_v 4))))))))
noncomputable def fb_extending : FS :=
  (fSeq (fAsg (fOp subF (oV 2) (oV 5)) 6)
  (fRet (fCB sumF (lCons (oE (fLc (iRg rg1F (fCons (fOp addF (oV 6) (oE (fC (.int 1)))) fNil)) [7] (gName 7) tYes (fOp mulF (oE (fCall 2 ff_choose (rO 6 (rO 7 rNil)))) (oE (fCall 5 ff_weight (rO 0 (rO 1 (rO 2 (rO 3 (rE (fOp addF (oV 4) (oV 7)) rNil)))))))))) lNil))))
noncomputable def ff_extending : FF := fDef 6 2 (fb_extending)
def td_extending : DS :=
  (dSeq (dAsg (dOp subD (dVar 2) (dVar 5)) (dName 6))
  (dRet false (dCB sumD (dCons (dLc false (diRange1 (dCons (dOp (addD false) (dVar 6) (dC (.int 1))) dNil)) [7] (dName 7) dYes (dOp (mulD false) (dCallN (fdN 2 ff_choose) (dCons (dVar 6) (dCons (dVar 7) dNil))) (dCallN (fdN 5 ff_weight) (dCons (dVar 0) (dCons (dVar 1) (dCons (dVar 2) (dCons (dVar 3) (dCons (dOp (addD false) (dVar 4) (dVar 7)) dNil)))))))) dNil))))
theorem sm_extending : SimS 6 (fb_extending) (td_extending) :=
  (s_seq (s_asg (s_op subF_ok (o_v 2) (o_v 5)) (by decide))
  (s_ret (s_callB sumF_ok (l_cons (o_e (s_lc (i_range1 (a_cons (s_op addF_ok (o_v 6) (o_e (s_c _))) a_nil)) (g_name 7) t_yes (s_op mulF_ok (o_e (s_call (r_o (r_o r_nil)))) (o_e (s_call (r_o (r_o (r_o (r_o (r_e (s_op addF_ok (o_v 4) (o_v 7)) r_nil)))))))))) l_nil))))
noncomputable def fb_pick_1 : FS :=
  (fSeq (fAug 3 subF (oV 5))
  (fSeq (fAug 4 iaddF (oE (fC (.int 1))))
  (fAsg (fCall 6 ff_extending (rO 0 (rO 1 (rO 2 (rO 4 (rE (fC (.int 0)) (rE (fC (.int 0)) rNil))))))) 5)))
noncomputable def fb_pick_2 : FS :=
  (fSeq (fAug 3 subF (oV 5))
  (fSeq (fAug 7 iaddF (oE (fC (.int 1))))
  (fAsg (fCall 6 ff_extending (rO 0 (rO 1 (rO 2 (rO 4 (rE (fOp addF (oE (fCB lenF (lCons (oV 6) lNil))) (oE (fC (.int 1)))) (rE (fOp addF (oV 7) (oE (fC (.int 1)))) rNil))))))) 5)))
noncomputable def fb_pick_3 : FS :=
  (fSeq (fAug 3 subF (oE (fCall 5 ff_weight (rO 0 (rO 1 (rO 2 (rO 4 (rE (fCB lenF (lCons (oV 6) lNil)) rNil))))))))
  (fSeq (fAsg (fCall 6 ff_extending (rO 0 (rO 1 (rO 2 (rO 4 (rE (fOp addF (oE (fCB lenF (lCons (oV 6) lNil))) (oE (fC (.int 1)))) (rE (fOp addF (oV 7) (oE (fC (.int 1)))) rNil))))))) 5)
  (fSeq (fWhile (fTest (fOp geF (oV 3) (oV 5))) fb_pick_2)
  (fSeq (fDrop (fApp 6 (fVar 7)))
  (fAug 7 iaddF (oE (fC (.int 1))))))))
noncomputable def fb_pick : FS :=
  (fSeq (fAsg (fC (.int 0)) 4)
  (fSeq (fAsg (fCall 6 ff_extending (rO 0 (rO 1 (rO 2 (rO 4 (rE (fC (.int 0)) (rE (fC (.int 0)) rNil))))))) 5)
  (fSeq (fWhile (fTest (fOp geF (oV 3) (oV 5))) fb_pick_1)
  (fSeq (fAsg (fLstN fNil) 6)
  (fSeq (fAsg (fC (.int 0)) 7)
  (fSeq (fWhile (fTest (fOp geF (oV 3) (oE (fCall 5 ff_weight (rO 0 (rO 1 (rO 2 (rO 4 (rE (fCB lenF (lCons (oV 6) lNil)) rNil))))))))) fb_pick_3)
  (fFrz 6 (fRet (fTup (fCons (fVar 4) (fCons (fVar 6) (fCons (fVar 3) fNil))))))))))))
noncomputable def ff_pick : FF := fDef 4 4 (fb_pick)
def td_pick : DS :=
  (dSeq (dAsg (dC (.int 0)) (dName 4))
  (dSeq (dAsg (dCallN (fdN 6 ff_extending) (dCons (dVar 0) (dCons (dVar 1) (dCons (dVar 2) (dCons (dVar 4) (dCons (dC (.int 0)) (dCons (dC (.int 0)) dNil))))))) (dName 5))
  (dSeq (dWhile (dTest (dOp geD (dVar 3) (dVar 5))) (dSeq (dAug 3 subD (dVar 5))
  (dSeq (dAug 4 iaddD (dC (.int 1)))
  (dAsg (dCallN (fdN 6 ff_extending) (dCons (dVar 0) (dCons (dVar 1) (dCons (dVar 2) (dCons (dVar 4) (dCons (dC (.int 0)) (dCons (dC (.int 0)) dNil))))))) (dName 5)))))
  (dSeq (dAsg (dLst true dNil) (dName 6))
  (dSeq (dAsg (dC (.int 0)) (dName 7))
  (dSeq (dWhile (dTest (dOp geD (dVar 3) (dCallN (fdN 5 ff_weight) (dCons (dVar 0) (dCons (dVar 1) (dCons (dVar 2) (dCons (dVar 4) (dCons (dCB lenD (dCons (dVar 6) dNil)) dNil)))))))) (dSeq (dAug 3 subD (dCallN (fdN 5 ff_weight) (dCons (dVar 0) (dCons (dVar 1) (dCons (dVar 2) (dCons (dVar 4) (dCons (dCB lenD (dCons (dVar 6) dNil)) dNil)))))))
  (dSeq (dAsg (dCallN (fdN 6 ff_extending) (dCons (dVar 0) (dCons (dVar 1) (dCons (dVar 2) (dCons (dVar 4) (dCons (dOp (addD false) (dCB lenD (dCons (dVar 6) dNil)) (dC (.int 1))) (dCons (dOp (addD false) (dVar 7) (dC (.int 1))) dNil))))))) (dName 5))
  (dSeq (dWhile (dTest (dOp geD (dVar 3) (dVar 5))) (dSeq (dAug 3 subD (dVar 5))
  (dSeq (dAug 7 iaddD (dC (.int 1)))
  (dAsg (dCallN (fdN 6 ff_extending) (dCons (dVar 0) (dCons (dVar 1) (dCons (dVar 2) (dCons (dVar 4) (dCons (dOp (addD false) (dCB lenD (dCons (dVar 6) dNil)) (dC (.int 1))) (dCons (dOp (addD false) (dVar 7) (dC (.int 1))) dNil))))))) (dName 5)))))
  (dSeq (dDrop (dApp (dVar 6) (dVar 7)))
  (dAug 7 iaddD (dC (.int 1))))))))
  (dFrz 6 (dRet false (dTup (dCons (dVar 4) (dCons (dVar 6) (dCons (dVar 3) dNil))))))))))))
theorem sm_pick : SimS 4 (fb_pick) (td_pick) :=
  (s_seq (s_asg (s_c _) (by decide))
  (s_seq (s_asg (s_call (r_o (r_o (r_o (r_o (r_e (s_c _) (r_e (s_c _) r_nil))))))) (by decide))
  (s_seq (s_while (t_test (s_op ordF_ok (o_v 3) (o_v 5))) (s_seq (s_aug subF_ok (o_v 5))
  (s_seq (s_aug iaddF_ok (o_e (s_c _)))
  (s_asg (s_call (r_o (r_o (r_o (r_o (r_e (s_c _) (r_e (s_c _) r_nil))))))) (by decide)))))
  (s_seq (s_asg (s_lstN a_nil) (by decide))
  (s_seq (s_asg (s_c _) (by decide))
  (s_seq (s_while (t_test (s_op ordF_ok (o_v 3) (o_e (s_call (r_o (r_o (r_o (r_o (r_e (s_callB lenF_ok (l_cons (o_v 6) l_nil)) r_nil))))))))) (s_seq (s_aug subF_ok (o_e (s_call (r_o (r_o (r_o (r_o (r_e (s_callB lenF_ok (l_cons (o_v 6) l_nil)) r_nil))))))))
  (s_seq (s_asg (s_call (r_o (r_o (r_o (r_o (r_e (s_op addF_ok (o_e (s_callB lenF_ok (l_cons (o_v 6) l_nil))) (o_e (s_c _))) (r_e (s_op addF_ok (o_v 7) (o_e (s_c _))) r_nil))))))) (by decide))
  (s_seq (s_while (t_test (s_op ordF_ok (o_v 3) (o_v 5))) (s_seq (s_aug subF_ok (o_v 5))
  (s_seq (s_aug iaddF_ok (o_e (s_c _)))
  (s_asg (s_call (r_o (r_o (r_o (r_o (r_e (s_op addF_ok (o_e (s_callB lenF_ok (l_cons (o_v 6) l_nil))) (o_e (s_c _))) (r_e (s_op addF_ok (o_v 7) (o_e (s_c _))) r_nil))))))) (by decide)))))
  (s_seq (s_drop (s_app (s_var 7)))
  (s_aug iaddF_ok (o_e (s_c _))))))))
  (s_frz (by decide) (s_ret (s_tup (a_cons (s_var 4) (a_cons (s_var 6) (a_cons (s_var 3) a_nil))))))))))))
noncomputable def fb_build_1 (ff : FF) : FS :=
  (fSeq (fAsg (fCall 1 ff_letters_name (rE (fCB lenF (lCons (oE (fLcO 4 [11] (gName 11) (fTru (oE (fCall 1 ff_is_take (rO 11 rNil)))) (fVar 11))) lNil)) rNil)) 7)
  (fSeq (fDrop (fApp 4 (fOp addF (oE (fC (.str "/"))) (oV 7))))
  (fAsgG (fOp addF (oV 2) (oE (fLst (fCons (fVar 7) fNil)))) (gName 2))))
noncomputable def fb_build (ff : FF) : FS :=
  (fSeq (fWhile (fTest (fOp ltF (oV 3) (oE (fOp ixF (oE (fOp ixF (oV 0) (oV 1))) (oE (fOp addF (oE (fCB lenF (lCons (oV 2) lNil))) (oE (fC (.int 1))))))))) (fb_build_1 ff))
  (fSeq (fIfS (fTest (fOp (eqF false) (oV 1) (oE (fC (.int 0))))) (fSeq (fDrop (fApp 4 (fOp ixF (oV 2) (oE (fC (.int 0))))))
  fRetN) fNext)
  (fSeq (fAug 3 subF (oE (fOp ixF (oE (fOp ixF (oV 0) (oV 1))) (oE (fOp addF (oE (fCB lenF (lCons (oV 2) lNil))) (oE (fC (.int 1))))))))
  (fSeq (fAsgG (fCall 4 ff_pick (rO 0 (rO 1 (rE (fCB lenF (lCons (oV 2) lNil)) (rO 3 rNil))))) (gTup 3 (gCons (gName 8) (gCons (gName 9) (gCons (gName 3) gNil)))))
  (fSeq (fDrop (fApp 4 (fC (.str "@"))))
  (fSeq (fAsg (fOp ixF (oE (fOp ixF (oV 0) (oE (fOp subF (oE (fOp subF (oV 1) (oE (fC (.int 1))))) (oV 8))))) (oE (fOp subF (oE (fCB lenF (lCons (oV 2) lNil))) (oE (fCB lenF (lCons (oV 9) lNil)))))) 5)
  (fSeq (fDrop (fCall 5 ff (rO 0 (rO 8 (rE (fLc (iSeq (fVar 9)) [10] (gName 10) tYes (fOp ixF (oV 2) (oV 10))) (rE (fOp divF (oV 3) (oV 5)) (rO 4 rNil)))))))
  (fSeq (fAsg (fLc (iEnum (fCons (fVar 2) fNil)) [10, 7] (gTup 2 (gCons (gName 10) (gCons (gName 7) gNil))) (fTest (fOp (inF true) (oV 10) (oV 9))) (fVar 7)) 6)
  (fDrop (fCall 5 ff (rO 0 (rE (fOp subF (oE (fOp subF (oV 1) (oE (fC (.int 1))))) (oV 8)) (rO 6 (rE (fOp modF (oV 3) (oV 5)) (rO 4 rNil)))))))))))))))
noncomputable def ff_build : FF := fRec 5 7 (fb_build) 100
def td_build (ff : FF) : DS :=
  (dSeq (dWhile (dTest (dOp ltD (dVar 3) (dOp ixD (dOp ixD (dVar 0) (dVar 1)) (dOp (addD false) (dCB lenD (dCons (dVar 2) dNil)) (dC (.int 1)))))) (dSeq (dAsg (dCallN (fdN 1 ff_letters_name) (dCons (dCB lenD (dCons (dLc false (diSeqM (dVar 4)) [11] (dName 11) (dTru (dCallN (fdN 1 ff_is_take) (dCons (dVar 11) dNil))) (dVar 11)) dNil)) dNil)) (dName 7))
  (dSeq (dDrop (dApp (dVar 4) (dOp (addD false) (dC (.str "/")) (dVar 7))))
  (dAsg (dOp (addD false) (dVar 2) (dLst false (dCons (dVar 7) dNil))) (dName 2)))))
  (dSeq (dIfS (dTest (dOp (eqD false) (dVar 1) (dC (.int 0)))) (dSeq (dDrop (dApp (dVar 4) (dOp ixD (dVar 2) (dC (.int 0)))))
  dRetN) dNext)
  (dSeq (dAug 3 subD (dOp ixD (dOp ixD (dVar 0) (dVar 1)) (dOp (addD false) (dCB lenD (dCons (dVar 2) dNil)) (dC (.int 1)))))
  (dSeq (dAsg (dCallN (fdN 4 ff_pick) (dCons (dVar 0) (dCons (dVar 1) (dCons (dCB lenD (dCons (dVar 2) dNil)) (dCons (dVar 3) dNil))))) (dgTup 3 (dgCons (dName 8) (dgCons (dName 9) (dgCons (dName 3) dgNil)))))
  (dSeq (dDrop (dApp (dVar 4) (dC (.str "@"))))
  (dSeq (dAsg (dOp ixD (dOp ixD (dVar 0) (dOp subD (dOp subD (dVar 1) (dC (.int 1))) (dVar 8))) (dOp subD (dCB lenD (dCons (dVar 2) dNil)) (dCB lenD (dCons (dVar 9) dNil)))) (dName 5))
  (dSeq (dDrop (dCallN (fdN 5 ff) (dCons (dVar 0) (dCons (dVar 8) (dCons (dLc false (diSeq (dVar 9)) [10] (dName 10) dYes (dOp ixD (dVar 2) (dVar 10))) (dCons (dOp divD (dVar 3) (dVar 5)) (dCons (dVar 4) dNil)))))))
  (dSeq (dAsg (dLc false (diEnum (dCons (dVar 2) dNil)) [10, 7] (dgTup 2 (dgCons (dName 10) (dgCons (dName 7) dgNil))) (dTest (dOp (inD true) (dVar 10) (dVar 9))) (dVar 7)) (dName 6))
  (dDrop (dCallN (fdN 5 ff) (dCons (dVar 0) (dCons (dOp subD (dOp subD (dVar 1) (dC (.int 1))) (dVar 8)) (dCons (dVar 6) (dCons (dOp modD (dVar 3) (dVar 5)) (dCons (dVar 4) dNil)))))))))))))))
theorem sm_build (ff : FF) : SimS 5 (fb_build ff) (td_build ff) :=
  (s_seq (s_while (t_test (s_op ordF_ok (o_v 3) (o_e (s_op ixF_ok (o_e (s_op ixF_ok (o_v 0) (o_v 1))) (o_e (s_op addF_ok (o_e (s_callB lenF_ok (l_cons (o_v 2) l_nil))) (o_e (s_c _)))))))) (s_seq (s_asg (s_call (r_e (s_callB lenF_ok (l_cons (o_e (s_lcO (g_name 11) (t_tru (fun _ _ _ h => h) (o_e (s_call (r_o r_nil)))) (s_var 11))) l_nil)) r_nil)) (by decide))
  (s_seq (s_drop (s_app (s_op addF_ok (o_e (s_c _)) (o_v 7))))
  (s_asgG (s_op addF_ok (o_v 2) (o_e (s_lst (a_cons (s_var 7) a_nil)))) (g_name 2)))))
  (s_seq (s_ifS (t_test (s_op eqF_ok (o_v 1) (o_e (s_c _)))) (s_seq (s_drop (s_app (s_op ixF_ok (o_v 2) (o_e (s_c _)))))
  s_retN) s_next)
  (s_seq (s_aug subF_ok (o_e (s_op ixF_ok (o_e (s_op ixF_ok (o_v 0) (o_v 1))) (o_e (s_op addF_ok (o_e (s_callB lenF_ok (l_cons (o_v 2) l_nil))) (o_e (s_c _)))))))
  (s_seq (s_asgG (s_call (r_o (r_o (r_e (s_callB lenF_ok (l_cons (o_v 2) l_nil)) (r_o r_nil))))) (g_tup (g_cons (g_name 8) (g_cons (g_name 9) (g_cons (g_name 3) g_nil)))))
  (s_seq (s_drop (s_app (s_c _)))
  (s_seq (s_asg (s_op ixF_ok (o_e (s_op ixF_ok (o_v 0) (o_e (s_op subF_ok (o_e (s_op subF_ok (o_v 1) (o_e (s_c _)))) (o_v 8))))) (o_e (s_op subF_ok (o_e (s_callB lenF_ok (l_cons (o_v 2) l_nil))) (o_e (s_callB lenF_ok (l_cons (o_v 9) l_nil)))))) (by decide))
  (s_seq (s_drop (s_call (r_o (r_o (r_e (s_lc (i_seq (s_var 9)) (g_name 10) t_yes (s_op ixF_ok (o_v 2) (o_v 10))) (r_e (s_op divF_ok (o_v 3) (o_v 5)) (r_o r_nil)))))))
  (s_seq (s_asg (s_lc (i_enum (a_cons (s_var 2) a_nil)) (g_tup (g_cons (g_name 10) (g_cons (g_name 7) g_nil))) (t_test (s_op inF_ok (o_v 10) (o_v 9))) (s_var 7)) (by decide))
  (s_drop (s_call (r_o (r_e (s_op subF_ok (o_e (s_op subF_ok (o_v 1) (o_e (s_c _)))) (o_v 8)) (r_o (r_e (s_op modF_ok (o_v 3) (o_v 5)) (r_o r_nil)))))))))))))))
noncomputable def fb_raw_program_at : FS :=
  (fSeq (fAsg (fLstN fNil) 3)
  (fSeq (fDrop (fCall 5 ff_build (rO 0 (rO 1 (rE (fLst fNil) (rO 2 (rO 3 rNil)))))))
  (fRet (fCB tupleF (lCons (oV 3) lNil)))))
noncomputable def ff_raw_program_at : FF := fDef 3 1 (fb_raw_program_at)
def td_raw_program_at : DS :=
  (dSeq (dAsg (dLst true dNil) (dName 3))
  (dSeq (dDrop (dCallN (fdN 5 ff_build) (dCons (dVar 0) (dCons (dVar 1) (dCons (dLst false dNil) (dCons (dVar 2) (dCons (dVar 3) dNil)))))))
  (dRet false (dCB tupleD (dCons (dVar 3) dNil)))))
theorem sm_raw_program_at : SimS 3 (fb_raw_program_at) (td_raw_program_at) :=
  (s_seq (s_asg (s_lstN a_nil) (by decide))
  (s_seq (s_drop (s_call (r_o (r_o (r_e (s_lst a_nil) (r_o (r_o r_nil)))))))
  (s_ret (s_callB tupleF_ok (l_cons (o_v 3) l_nil)))))
noncomputable def fb_RawProgram_init (c : Cs) : FS :=
  (fSetF c.Pb "words" (fCB tupleF (lCons (oV 1) lNil)) 0)
noncomputable def ff_RawProgram_init (c : Cs) : FF := fDef 2 0 (fb_RawProgram_init c)
def td_RawProgram_init (c : Cs) : DS :=
  (dSetF c.P "words" (dCB tupleD (dCons (dVar 1) dNil)) (dVar 0))
theorem sm_RawProgram_init {c : Cs} : SimS 2 (fb_RawProgram_init c) (td_RawProgram_init c) :=
  (s_setF c.hP (s_callB tupleF_ok (l_cons (o_v 1) l_nil)))
noncomputable def fb_programs (c : Cs) : FS :=
  (fSeq (fDrop (fCall 3 ff_check_number (rO 0 (rE (fC (.int 0)) (rE (fC (.int 3)) rNil)))))
  (fSeq (fAsg (fCall 1 ff_labelled (rO 0 rNil)) 1)
  (fRet (fLcN (iRg rg1F (fCons (fOp ixF (oE (fOp ixF (oV 1) (oV 0))) (oE (fC (.int 0)))) fNil)) [2] (gName 2) tYes (fMake c.RawProgram 2 (ff_RawProgram_init c) (fCons (fCall 3 ff_raw_program_at (rO 1 (rO 0 (rO 2 rNil)))) fNil))))))
noncomputable def ff_programs (c : Cs) : FF := fDef 1 2 (fb_programs c)
def td_programs (c : Cs) : DS :=
  (dSeq (dDrop (dCallN (fdN 3 ff_check_number) (dCons (dVar 0) (dCons (dC (.int 0)) (dCons (dC (.int 3)) dNil)))))
  (dSeq (dAsg (dCallN (fdN 1 ff_labelled) (dCons (dVar 0) dNil)) (dName 1))
  (dRet false (dLc true (diRange1 (dCons (dOp ixD (dOp ixD (dVar 1) (dVar 0)) (dC (.int 0))) dNil)) [2] (dName 2) dYes (dMake c.RawProgram (fdN 2 (ff_RawProgram_init c)) [] false (dCons (dCallN (fdN 3 ff_raw_program_at) (dCons (dVar 1) (dCons (dVar 0) (dCons (dVar 2) dNil)))) dNil))))))
theorem sm_programs {c : Cs} : SimS 1 (fb_programs c) (td_programs c) :=
  (s_seq (s_drop (s_call (r_o (r_e (s_c _) (r_e (s_c _) r_nil)))))
  (s_seq (s_asg (s_call (r_o r_nil)) (by decide))
  (s_ret (s_lcN (i_range1 (a_cons (s_op ixF_ok (o_e (s_op ixF_ok (o_v 1) (o_v 0))) (o_e (s_c _))) a_nil)) (g_name 2) t_yes (s_make (a_cons (s_call (r_o (r_o (r_o r_nil)))) a_nil))))))
noncomputable def fb_law_is_words (c : Cs) : FS :=
  (fRet (fAndV (fCB (isiOF c.rel) (lCons (oV 0) (lCons (oE (fC (.cls c.Program))) lNil))) (fAndV (fCB isiF (lCons (oE (fFld c.Pb "words" (oV 0))) (lCons (oE (fC (.ty "tuple"))) lNil))) (fOp (eqF false) (oE (fFld c.Pb "words" (oV 0))) (oV 1)))))
noncomputable def ff_law_is_words (c : Cs) : FF := fDef 2 0 (fb_law_is_words c)
def td_law_is_words (c : Cs) : DS :=
  (dRet false (dAndV (dCB (isiOD c.rel) (dCons (dVar 0) (dCons (dC (.cls c.Program)) dNil))) (dAndV (dCB isiD (dCons (dFld c.P "words" (dVar 0)) (dCons (dC (.ty "tuple")) dNil))) (dOp (eqD false) (dFld c.P "words" (dVar 0)) (dVar 1)))))
theorem sm_law_is_words {c : Cs} : SimS 2 (fb_law_is_words c) (td_law_is_words c) :=
  (s_ret (s_andV (s_callB isiOF_ok (l_cons (o_v 0) (l_cons (o_e (s_c _)) l_nil))) (s_andV (s_callB isiF_ok (l_cons (o_e (s_fld c.hP (o_v 0))) (l_cons (o_e (s_c _)) l_nil))) (s_op eqF_ok (o_e (s_fld c.hP (o_v 0))) (o_v 1)))))
noncomputable def fb_law_1 (c : Cs) : FS :=
  (fIfS (fNot (fTru (oE (fCall 2 (ff_law_is_words c) (rE (fOp ixF (oV 5) (oV 6)) (rE (fOp ixF (oV 3) (oV 6)) rNil)))))) (fRet (fC (.bl false))) fNext)
noncomputable def fb_law_2 (c : Cs) : FS :=
  (fSeq (fAsg (fCall 1 (ff_programs c) (rO 2 rNil)) 5)
  (fSeq (fIfS (fOr (fNot (fTru (oE (fCB isiF (lCons (oV 5) (lCons (oE (fC (.ty "list"))) lNil)))))) (fTest (fOp (eqF true) (oE (fCB lenF (lCons (oV 5) lNil))) (oE (fCB lenF (lCons (oV 3) lNil)))))) (fRet (fC (.bl false))) fNext)
  (fSeq (fFor (iRg rg1F (fCons (fCB lenF (lCons (oV 3) lNil)) fNil)) (gName 6) (fb_law_1 c))
  (fSeq (fDrop (fApp 5 (fOp ixF (oV 5) (oE (fC (.int 0))))))
  (fSetIx 5 (fCall 2 ff_law_draw (rO 1 (rE (fCB lenF (lCons (oV 3) lNil)) rNil))) (fC .non))))))
noncomputable def fb_law (c : Cs) : FS :=
  (fSeq (fAsg (fCall 1 ff_law_pot (rO 0 rNil)) 1)
  (fSeq (fAsg (fIf (fTest (fOp (eqF false) (oE (fCall 2 ff_law_draw (rO 1 (rE (fC (.int 24)) rNil)))) (oE (fC (.int 7))))) (fC (.int 3)) (fCall 2 ff_law_draw (rO 1 (rE (fC (.int 3)) rNil)))) 2)
  (fSeq (fAsg (fLc (iSeq (fCall 3 ff_law_all (rE (fTup fNil) (rO 2 (rE (fC (.str "")) rNil))))) [7] (gName 7) tYes (fCall 1 ff_law_standard (rO 7 rNil))) 3)
  (fSeq (fIfS (fTest (fOp (eqF true) (oE (fCall 2 ff_many (rO 2 (rE (fC (.int 0)) rNil)))) (oE (fCB lenF (lCons (oV 3) lNil))))) (fRet (fC (.bl false))) fNext)
  (fSeq (fFor (iRg rg1F (fCons (fC (.int 2)) fNil)) (gName 4) (fb_law_2 c))
  (fRet (fC (.bl true))))))))
noncomputable def ff_law (c : Cs) : FF := fDef 1 7 (fb_law c)
def td_law (c : Cs) : DS :=
  (dSeq (dAsg (dCallN (fdN 1 ff_law_pot) (dCons (dVar 0) dNil)) (dName 1))
  (dSeq (dAsg (dIf (dTest (dOp (eqD false) (dCallN (fdN 2 ff_law_draw) (dCons (dVar 1) (dCons (dC (.int 24)) dNil))) (dC (.int 7)))) (dC (.int 3)) (dCallN (fdN 2 ff_law_draw) (dCons (dVar 1) (dCons (dC (.int 3)) dNil)))) (dName 2))
  (dSeq (dAsg (dLc false (diSeq (dCallN (fdN 3 ff_law_all) (dCons (dTup dNil) (dCons (dVar 2) (dCons (dC (.str "")) dNil))))) [7] (dName 7) dYes (dCallN (fdN 1 ff_law_standard) (dCons (dVar 7) dNil))) (dName 3))
  (dSeq (dIfS (dTest (dOp (eqD true) (dCallN (fdN 2 ff_many) (dCons (dVar 2) (dCons (dC (.int 0)) dNil))) (dCB lenD (dCons (dVar 3) dNil)))) (dRet false (dC (.bl false))) dNext)
  (dSeq (dFor (diRange1 (dCons (dC (.int 2)) dNil)) (dName 4) (dSeq (dAsg (dCallN (fdN 1 (ff_programs c)) (dCons (dVar 2) dNil)) (dName 5))
  (dSeq (dIfS (dOr (dNot (dTru (dCB isiD (dCons (dVar 5) (dCons (dC (.ty "list")) dNil))))) (dTest (dOp (eqD true) (dCB lenD (dCons (dVar 5) dNil)) (dCB lenD (dCons (dVar 3) dNil))))) (dRet false (dC (.bl false))) dNext)
  (dSeq (dFor (diRange1 (dCons (dCB lenD (dCons (dVar 3) dNil)) dNil)) (dName 6) (dIfS (dNot (dTru (dCallN (fdN 2 (ff_law_is_words c)) (dCons (dOp ixD (dVar 5) (dVar 6)) (dCons (dOp ixD (dVar 3) (dVar 6)) dNil))))) (dRet false (dC (.bl false))) dNext))
  (dSeq (dDrop (dApp (dVar 5) (dOp ixD (dVar 5) (dC (.int 0)))))
  (dSetIx (dC .non) (dVar 5) (dCallN (fdN 2 ff_law_draw) (dCons (dVar 1) (dCons (dCB lenD (dCons (dVar 3) dNil)) dNil)))))))))
  (dRet false (dC (.bl true))))))))
theorem sm_law {c : Cs} : SimS 1 (fb_law c) (td_law c) :=
  (s_seq (s_asg (s_call (r_o r_nil)) (by decide))
  (s_seq (s_asg (s_if (t_test (s_op eqF_ok (o_e (s_call (r_o (r_e (s_c _) r_nil)))) (o_e (s_c _)))) (s_c _) (s_call (r_o (r_e (s_c _) r_nil)))) (by decide))
  (s_seq (s_asg (s_lc (i_seq (s_call (r_e (s_tup a_nil) (r_o (r_e (s_c _) r_nil))))) (g_name 7) t_yes (s_call (r_o r_nil))) (by decide))
  (s_seq (s_ifS (t_test (s_op eqF_ok (o_e (s_call (r_o (r_e (s_c _) r_nil)))) (o_e (s_callB lenF_ok (l_cons (o_v 3) l_nil))))) (s_ret (s_c _)) s_next)
  (s_seq (s_for (i_range1 (a_cons (s_c _) a_nil)) (g_name 4) (s_seq (s_asg (s_call (r_o r_nil)) (by decide))
  (s_seq (s_ifS (t_or (t_not (t_tru (fun _ _ _ h => h) (o_e (s_callB isiF_ok (l_cons (o_v 5) (l_cons (o_e (s_c _)) l_nil)))))) (t_test (s_op eqF_ok (o_e (s_callB lenF_ok (l_cons (o_v 5) l_nil))) (o_e (s_callB lenF_ok (l_cons (o_v 3) l_nil)))))) (s_ret (s_c _)) s_next)
  (s_seq (s_for (i_range1 (a_cons (s_callB lenF_ok (l_cons (o_v 3) l_nil)) a_nil)) (g_name 6) (s_ifS (t_not (t_tru (fun _ _ _ h => h) (o_e (s_call (r_e (s_op ixF_ok (o_v 5) (o_v 6)) (r_e (s_op ixF_ok (o_v 3) (o_v 6)) r_nil)))))) (s_ret (s_c _)) s_next))
  (s_seq (s_drop (s_app (s_op ixF_ok (o_v 5) (o_e (s_c _)))))
  (s_setIx (s_c _) (s_call (r_o (r_e (s_callB lenF_ok (l_cons (o_v 3) l_nil)) r_nil)))))))))
  (s_ret (s_c _)))))))
end Once

/-! PW: words of programs, plainly. -/
namespace Once
open PySem PySem.Spec L2 OD F
/-- names, as rows of letters -/
def okn (n : List Nat) : Prop := 1 ≤ n.length ∧ n.length ≤ 8 ∧ ∀ c ∈ n, 97 ≤ c ∧ c ≤ 122
inductive Pw where
  | gv
  | tk (n : List Nat)
  | us (n : List Nat)
deriving DecidableEq
def Pw.ok : Pw → Prop
  | .gv => True
  | .tk n => okn n
  | .us n => okn n
def Pw.ar : Pw → Nat
  | .gv => 2
  | .tk _ => 1
  | .us _ => 0
def mkS (l : List Nat) : Str := ⟨l.toArray⟩
def pw : Pw → D
  | .gv => .str (mkS [64])
  | .tk n => .str (mkS (47 :: n))
  | .us n => .str (mkS n)
theorem s_at : (Str.ofString "@" : Str) = mkS [64] := by decide +kernel
theorem s_sl : (Str.ofString "/" : Str) = mkS [47] := by decide +kernel
theorem s_a : (Str.ofString "a" : Str) = mkS [97] := by decide +kernel
theorem s_z : (Str.ofString "z" : Str) = mkS [122] := by decide +kernel
theorem s_no : (Str.ofString "" : Str) = mkS [] := by decide +kernel
theorem mkS_inj {a b : List Nat} : mkS a = mkS b ↔ a = b := by
  unfold mkS
  constructor
  · intro h
    have := Str.mk.inj h
    simpa using this
  · rintro rfl; rfl
@[simp] theorem mkS_len (a : List Nat) : (mkS a).length = a.length := by
  unfold mkS Str.length
  simp
@[simp] theorem mkS_cps (a : List Nat) : (mkS a).cps.toList = a := by
  unfold mkS
  simp
@[simp] theorem mkS_app (a b : List Nat) : mkS a ++ mkS b = mkS (a ++ b) := by
  show (⟨a.toArray ++ b.toArray⟩ : Str) = ⟨(a ++ b).toArray⟩
  simp
theorem cutS_mk (a : List Nat) (lo hi : Option Int) : cutS (mkS a) lo hi = mkS (cutL a lo hi) := by
  unfold cutS
  rw [mkS_len, mkS_cps]
  rfl
theorem strL_mk (a : List Nat) : strL (mkS a) = a.map fun c => .str (mkS [c]) := by
  unfold strL
  rw [mkS_cps]
  rfl
theorem cutL_pre {α : Type} (xs : List α) (a : Nat) : cutL xs none (some (a : Int)) = xs.take a := by
  unfold cutL
  rw [HT.sIx_none, show HT.sIx xs.length xs.length (some (a : Int)) = min a xs.length from HT.sIx_nat _ _ a, List.drop_zero, Nat.sub_zero, ← List.take_eq_take_min]
theorem cutL_suf {α : Type} (xs : List α) (a : Nat) : cutL xs (some (a : Int)) none = xs.drop a := by
  unfold cutL
  rw [HT.sIx_none, show HT.sIx xs.length 0 (some (a : Int)) = min a xs.length from HT.sIx_nat _ _ a]
  by_cases h : a ≤ xs.length
  · rw [Nat.min_eq_left h, List.take_of_length_le (by rw [List.length_drop]; omega)]
  · rw [Nat.min_eq_right (by omega), List.drop_eq_nil_of_le (Nat.le_refl _), List.drop_eq_nil_of_le (by omega)]; simp
theorem cutL_mid {α : Type} (xs : List α) (a b : Nat) (h1 : a ≤ b) (h2 : b ≤ xs.length) : cutL xs (some (a : Int)) (some (b : Int)) = (xs.drop a).take (b - a) := by
  unfold cutL
  rw [show HT.sIx xs.length 0 (some (a : Int)) = min a xs.length from HT.sIx_nat _ _ a, show HT.sIx xs.length xs.length (some (b : Int)) = min b xs.length from HT.sIx_nat _ _ b, Nat.min_eq_left h2, Nat.min_eq_left (by omega)]
theorem cutL_1 {α : Type} (xs : List α) : cutL xs none (some 1) = xs.take 1 := cutL_pre xs 1
theorem cutL_r {α : Type} (xs : List α) : cutL xs (some 1) none = xs.drop 1 := cutL_suf xs 1
end Once

/-! PL: names by their number, plainly. -/
namespace Once
open PySem PySem.Spec L2 OD F
def lt : Nat → Nat → List Nat → List Nat
  | 0, _, f => f
  | k + 1, l, f => if l = 0 then f else lt k ((l - 1) / 26) ((97 + (l - 1) % 26) :: f)
def BB : Nat → Nat
  | 0 => 0
  | k + 1 => 26 * BB k + 26
theorem lt_app : ∀ (k l : Nat) (f : List Nat), lt k l f = lt k l [] ++ f := by
  intro k
  induction k with
  | zero => intro l f; rfl
  | succ k ih =>
    intro l f
    unfold lt
    by_cases h : l = 0
    · rw [if_pos h, if_pos h]; rfl
    · rw [if_neg h, if_neg h, ih, ih _ [_]]
      simp
theorem lt_zero (k : Nat) (f : List Nat) : lt k 0 f = f := by cases k <;> simp [lt]
theorem lt_fuel : ∀ (k l : Nat) (f : List Nat), l ≤ BB k → lt (k + 1) l f = lt k l f := by
  intro k
  induction k with
  | zero =>
    intro l f h
    have : l = 0 := by simpa [BB] using h
    subst this
    rw [lt_zero, lt_zero]
  | succ k ih =>
    intro l f h
    by_cases h0 : l = 0
    · subst h0; rw [lt_zero, lt_zero]
    · have h1 : (l - 1) / 26 ≤ BB k := by
        unfold BB at h
        omega
      show (if l = 0 then f else lt (k + 1) ((l - 1) / 26) ((97 + (l - 1) % 26) :: f)) = if l = 0 then f else lt k ((l - 1) / 26) ((97 + (l - 1) % 26) :: f)
      rw [if_neg h0, if_neg h0, ih _ _ h1]
theorem lt_len : ∀ (k l : Nat) (f : List Nat), (lt k l f).length ≤ k + f.length := by
  intro k
  induction k with
  | zero => intro l f; simp [lt]
  | succ k ih =>
    intro l f
    unfold lt
    split
    · omega
    · have := ih ((l - 1) / 26) ((97 + (l - 1) % 26) :: f)
      simp only [List.length_cons] at this
      omega
theorem lt_chr : ∀ (k l : Nat) (f : List Nat), (∀ c ∈ f, 97 ≤ c ∧ c ≤ 122) → ∀ c ∈ lt k l f, 97 ≤ c ∧ c ≤ 122 := by
  intro k
  induction k with
  | zero => intro l f h; exact h
  | succ k ih =>
    intro l f h
    unfold lt
    split
    · exact h
    · refine ih _ _ fun c hc => ?_
      rcases List.mem_cons.mp hc with rfl | hc
      · omega
      · exact h c hc
def dec (f : List Nat) : Nat := f.foldl (fun a c => a * 26 + (c - 97) + 1) 0
theorem dec_lt : ∀ (k l : Nat), l ≤ BB k → dec (lt k l []) = l := by
  intro k
  induction k with
  | zero =>
    intro l h
    have : l = 0 := by simpa [BB] using h
    subst this
    rfl
  | succ k ih =>
    intro l h
    by_cases h0 : l = 0
    · subst h0; rw [lt_zero]; rfl
    · have h1 : (l - 1) / 26 ≤ BB k := by
        unfold BB at h
        omega
      unfold lt
      rw [if_neg h0, lt_app]
      unfold dec
      rw [List.foldl_append]
      have := ih _ h1
      unfold dec at this
      rw [this]
      simp only [List.foldl_cons, List.foldl_nil]
      omega
theorem BB8 : BB 8 = 217180147158 := by decide
def letters (n : Nat) : List Nat := lt 9 (n + 1) []
theorem letters_ok {n : Nat} (h : n < 217180147158) : okn (letters n) := by
  have hb : n + 1 ≤ BB 8 := by rw [BB8]; omega
  have e : letters n = lt 8 (n + 1) [] := lt_fuel 8 (n + 1) [] hb
  refine ⟨?_, ?_, ?_⟩
  · rw [e]
    have : lt 8 (n + 1) [] = lt 7 (n / 26) [97 + n % 26] := by
      show (if n + 1 = 0 then _ else lt 7 ((n + 1 - 1) / 26) _) = _
      rw [if_neg (by omega), Nat.add_sub_cancel]
    rw [this, lt_app]
    simp
  · rw [e]
    have := lt_len 8 (n + 1) []
    simpa using this
  · exact lt_chr 9 (n + 1) [] (by simp)
theorem letters_inj {m n : Nat} (hm : m < 217180147158) (hn : n < 217180147158) (h : letters m = letters n) : m = n := by
  have h1 : m + 1 ≤ BB 8 := by rw [BB8]; omega
  have h2 : n + 1 ≤ BB 8 := by rw [BB8]; omega
  have e1 : letters m = lt 8 (m + 1) [] := lt_fuel 8 (m + 1) [] h1
  have e2 : letters n = lt 8 (n + 1) [] := lt_fuel 8 (n + 1) [] h2
  rw [e1, e2] at h
  have := congrArg dec h
  rw [dec_lt _ _ h1, dec_lt _ _ h2] at this
  omega
end Once

/-! FP11: names drawn. -/
namespace Once
open PySem PySem.Spec L2 OD F
theorem s_al : (Str.ofString "abcdefghijklmnopqrstuvwxyz" : Str) = mkS (List.range' 97 26) := by decide +kernel
theorem al_at {i : Nat} (h : i < 26) : atI (List.range' 97 26) (i : Int) = some (97 + i) := atI_nat (by rw [List.getElem?_range' h]; simp)
theorem mk1 (c : Nat) : (⟨#[c]⟩ : Str) = mkS [c] := rfl
theorem while_stop0 {t : FT} {body : FS} {s s1 : Sl} (h : t s = .ok false s1) : fWhile t body s = .nx s1 := by
  refine fWhile_of (n := 1) ?_ (fun z => by cases z)
  show (t s).thn _ = _
  rw [h]
  rfl
theorem while_step0 {t : FT} {body : FS} {s s1 s2 : Sl} {o : O} (h : t s = .ok true s1) (hb : body s1 = .nx s2) (hr : fWhile t body s2 = o) (ho : o ≠ .bad) : fWhile t body s = o := by
  obtain ⟨n, e⟩ := fWhile_ex (t := t) (body := body) (s := s2) (by rw [hr]; exact ho)
  refine fWhile_of (n := n + 1) ?_ ho
  show (t s).thn _ = _
  rw [h, ok_thn, if_pos rfl, hb]
  dsimp only
  rw [e, hr]
theorem letters_loop (n : D) : ∀ (k l : Nat) (f : List Nat), l ≤ BB k → l < 1000000000000000 → f.length + k < 1000 → k ≤ 100 →
    fWhile (fTest (fOp gtF (oV 2) (oE (fC (.int 0))))) fb_law_letters_1 [some (.im n), some (.im (.str (mkS f))), some (.im (.int (l : Nat)))] = .nx [some (.im n), some (.im (.str (mkS (lt k l f)))), some (.im (.int 0))] := by
  intro k
  induction k with
  | zero =>
    intro l f h _ _ _
    have : l = 0 := by simpa [BB] using h
    subst this
    rw [lt_zero]
    exact while_stop0 (by simp)
  | succ k ih =>
    intro l f h hl hf hk
    by_cases h0 : l = 0
    · subst h0
      rw [lt_zero]
      exact while_stop0 (by simp)
    · have hp : 0 < l := by omega
      have hd1 : (l - 1) / 26 ≤ BB k := by
        unfold BB at h
        omega
      have e := ih ((l - 1) / 26) ((97 + (l - 1) % 26) :: f) hd1 (by omega) (by simp; omega) (by omega)
      have hm : ((l : Int) - 1) % 26 = (((l - 1) % 26 : Nat) : Int) := by omega
      have hd : ((l : Int) - 1) / 26 = (((l - 1) / 26 : Nat) : Int) := by omega
      have ha := al_at (i := (l - 1) % 26) (by omega)
      have hlen : f.length + 1 ≤ 16777216 := by omega
      have hlen' : 1 + f.length ≤ 16777216 := by omega
      have hlog : Nat.log2 26 < 9000 := by decide
      revert e ha hm hd
      rw [show lt (k + 1) l f = lt k ((l - 1) / 26) ((97 + (l - 1) % 26) :: f) by
        show (if l = 0 then f else lt k ((l - 1) / 26) ((97 + (l - 1) % 26) :: f)) = _
        rw [if_neg h0]]
      generalize (l - 1) % 26 = m
      generalize (l - 1) / 26 = q
      intro e hm hd ha
      have hp' : (0 : Int) < l := by omega
      refine while_step0 (s1 := [some (.im n), some (.im (.str (mkS f))), some (.im (.int (l : Nat)))]) (s2 := [some (.im n), some (.im (.str (mkS ((97 + m) :: f)))), some (.im (.int ((q : Nat) : Int)))]) (by simp [hp]) ?_ e (fun z => by cases z)
      simp [fb_law_letters_1, late, s_al, hm, hd, ha, hlen, hlen', hlog, mk1]
theorem law_letters_eq {n : Nat} (hn : n < 100000000000) : ff_law_letters [.im (.int (n : Nat))] = .ok (.im (.str (mkS (letters n)))) [.im (.int (n : Nat))] := by
  have hb : n + 1 ≤ BB 9 := by
    have : BB 9 = 26 * BB 8 + 26 := rfl
    rw [this, BB8]
    omega
  have e := letters_loop (.int (n : Nat)) 9 (n + 1) [] hb (by omega) (by simp) (by omega)
  simp only [Int.natCast_add] at e
  simp at e
  simp [ff_law_letters, fDef_eq, fb_law_letters, late, s_no, e, letters]
end Once

/-! GN1: letters_name -/
namespace Once
open PySem PySem.Spec L2 OD F
theorem while_stop {t : FT} {body : FS} {s s1 : Sl} (h : t s = .ok false s1) : fWhile t body s = .nx s1 := while_stop0 h
theorem while_step {t : FT} {body : FS} {s s1 s2 : Sl} {o : O} (h : t s = .ok true s1) (hb : body s1 = .nx s2) (hr : fWhile t body s2 = o) (ho : o ≠ .bad) : fWhile t body s = o := while_step0 h hb hr ho
theorem letters_name_loop (n : D) : ∀ (k l : Nat) (f : List Nat), l ≤ BB k → l < 1000000000000000 → f.length + k < 1000 → k ≤ 100 →
    fWhile (fTest (fOp gtF (oV 2) (oE (fC (.int 0))))) fb_letters_name_1 [some (.im n), some (.im (.str (mkS f))), some (.im (.int (l : Nat)))] = .nx [some (.im n), some (.im (.str (mkS (lt k l f)))), some (.im (.int 0))] := by
  intro k
  induction k with
  | zero =>
    intro l f h _ _ _
    have : l = 0 := by simpa [BB] using h
    subst this
    rw [lt_zero]
    exact while_stop (by simp)
  | succ k ih =>
    intro l f h hl hf hk
    by_cases h0 : l = 0
    · subst h0
      rw [lt_zero]
      exact while_stop (by simp)
    · have hp : 0 < l := by omega
      have hd1 : (l - 1) / 26 ≤ BB k := by
        unfold BB at h
        omega
      have e := ih ((l - 1) / 26) ((97 + (l - 1) % 26) :: f) hd1 (by omega) (by simp; omega) (by omega)
      have hm : ((l : Int) - 1) % 26 = (((l - 1) % 26 : Nat) : Int) := by omega
      have hd : ((l : Int) - 1) / 26 = (((l - 1) / 26 : Nat) : Int) := by omega
      have ha := al_at (i := (l - 1) % 26) (by omega)
      have hlen : f.length + 1 ≤ 16777216 := by omega
      have hlen' : 1 + f.length ≤ 16777216 := by omega
      have hlog : Nat.log2 26 < 9000 := by decide
      revert e ha hm hd
      rw [show lt (k + 1) l f = lt k ((l - 1) / 26) ((97 + (l - 1) % 26) :: f) by
        show (if l = 0 then f else lt k ((l - 1) / 26) ((97 + (l - 1) % 26) :: f)) = _
        rw [if_neg h0]]
      generalize (l - 1) % 26 = m
      generalize (l - 1) / 26 = q
      intro e hm hd ha
      have hp' : (0 : Int) < l := by omega
      refine while_step (s1 := [some (.im n), some (.im (.str (mkS f))), some (.im (.int (l : Nat)))]) (s2 := [some (.im n), some (.im (.str (mkS ((97 + m) :: f)))), some (.im (.int ((q : Nat) : Int)))]) (by simp [hp]) ?_ e (fun z => by cases z)
      simp [fb_letters_name_1, late, s_al, hm, hd, ha, hlen, hlen', hlog, mk1]
theorem letters_name_eq {n : Nat} (hn : n < 100000000000) : ff_letters_name [.im (.int (n : Nat))] = .ok (.im (.str (mkS (letters n)))) [.im (.int (n : Nat))] := by
  have hb : n + 1 ≤ BB 9 := by
    have : BB 9 = 26 * BB 8 + 26 := rfl
    rw [this, BB8]
    omega
  have e := letters_name_loop (.int (n : Nat)) 9 (n + 1) [] hb (by omega) (by simp) (by omega)
  simp only [Int.natCast_add] at e
  simp at e
  simp [ff_letters_name, fDef_eq, fb_letters_name, late, s_no, e, letters]
end Once

/-! FDr: draws. -/
namespace Once
open PySem PySem.Spec L2 OD F
/-! a draw -/
theorem log_small {n : Int} (h : n.natAbs < 10 ^ 60) : n.natAbs.log2 < 9000 := by
  by_cases h0 : n.natAbs = 0
  · rw [h0]; decide
  · have h2 : n.natAbs < 2 ^ 200 := Nat.lt_of_lt_of_le h (by decide)
    have := (Nat.log2_lt h0).mpr h2
    omega
theorem draw_ok {c : PotC} {n : Int} (hc : c.ss ≠ []) (h0 : 0 < n) (h1 : n.natAbs < 10 ^ 60) : ∃ r c', c'.ss ≠ [] ∧ 0 ≤ r ∧ r < n ∧ ff_law_draw [.pot c, .im (.int n)] = .ok (.im (.int r)) [.pot c', .im (.int n)] := by
  refine ⟨(drawV c n).1, (drawV c n).2, by rw [drawV_ss]; exact hc, drawV_lo h0, drawV_hi h0, ?_⟩
  unfold ff_law_draw
  dsimp only
  rw [if_pos ⟨hc, h0, log_small h1⟩]
theorem draw_nat {c : PotC} {n : Nat} (hc : c.ss ≠ []) (h0 : 0 < n) (h1 : n < 10 ^ 60) : ∃ (r : Nat) (c' : PotC), c'.ss ≠ [] ∧ r < n ∧ ff_law_draw [.pot c, .im (.int n)] = .ok (.im (.int r)) [.pot c', .im (.int n)] := by
  obtain ⟨r, c', a, b, d, e⟩ := draw_ok (n := (n : Int)) hc (by omega) (by simpa using h1)
  obtain ⟨k, rfl⟩ := Int.eq_ofNat_of_zero_le b
  exact ⟨k, c', a, by omega, e⟩
end Once

/-! FA47a: counting, by functions that may fail. -/
namespace Once
open PySem PySem.Spec L2 OD F
def foldO {α σ : Type} (st : α → σ → Option σ) : List α → σ → Option σ
  | [], a => some a
  | x :: xs, a => (st x a).bind (foldO st xs)
def mapO {α β : Type} (g : α → Option β) : List α → Option (List β)
  | [] => some []
  | x :: xs => (g x).bind fun y => (mapO g xs).map (y :: ·)
theorem bind_some {α β : Type} {a : Option α} {f : α → Option β} {b : β} (h : a.bind f = some b) : ∃ x, a = some x ∧ f x = some b := Option.bind_eq_some_iff.mp h
/-- a loop -/
theorem forL_sim {α σ : Type} {tg : FG} {body : FS} (e : α → D) (R : σ → Sl → Prop) (st : α → σ → Option σ) : ∀ (xs : List α) (a b : σ) (s : Sl), (∀ x ∈ xs, ∀ a b s, R a s → st x a = some b → ∃ s1 s2, tg (e x) s = some s1 ∧ body s1 = .nx s2 ∧ R b s2) →
    R a s → foldO st xs a = some b → ∃ s', forL tg body (xs.map e) s = .nx s' ∧ R b s' := by
  intro xs
  induction xs with
  | nil => intro a b s _ hr h; cases h; exact ⟨s, rfl, hr⟩
  | cons x xs ih =>
    intro a b s hx hr h
    obtain ⟨c, h1, h2⟩ := bind_some h
    obtain ⟨s1, s2, g1, g2, g3⟩ := hx x (by simp) a c s hr h1
    obtain ⟨s', e', r'⟩ := ih c b s2 (fun y hy => hx y (by simp [hy])) g3 h2
    exact ⟨s', by rw [List.map_cons, forL_step g1 g2]; exact e', r'⟩
/-- a comprehension -/
theorem lcL_sim {α β : Type} {vs : List Nat} {tg : FG} {t : FT} {ef : FE} (e : α → D) (d : β → D) (g : α → Option β) {s0 : Sl} : ∀ (xs : List α) (ys : List β) (s : Sl) (acc : List D), wipeF s vs = s0 → acc.length + xs.length ≤ 16777216 →
    (∀ x ∈ xs, ∀ y, g x = some y → ∃ s1 s2 s3, tg (e x) s0 = some s1 ∧ t s1 = .ok true s2 ∧ ef s2 = .ok (.im (d y)) s3 ∧ wipeF s3 vs = s0) → mapO g xs = some ys →
    ∃ s', lcL vs tg t ef (xs.map e) s acc = .ok (acc ++ ys.map d) s' ∧ wipeF s' vs = s0 := by
  intro xs
  induction xs with
  | nil => intro ys s acc hs _ _ h; cases h; exact ⟨s, by simp [lcL], hs⟩
  | cons x xs ih =>
    intro ys s acc hs hl hx h
    obtain ⟨y, h1, h2⟩ := bind_some h
    obtain ⟨zs, h3, rfl⟩ := Option.map_eq_some_iff.mp h2
    rw [List.length_cons] at hl
    obtain ⟨s1, s2, s3, g1, g2, g3, g4⟩ := hx x (by simp) y h1
    obtain ⟨s', e', w⟩ := ih zs s3 (acc ++ [d y]) g4 (by simp; omega) (fun z hz => hx z (by simp [hz])) h3
    refine ⟨s', ?_, w⟩
    have hc : acc.length < 16777216 := by omega
    rw [List.map_cons, lcL, hs, g1]
    dsimp only
    rw [g2, nox_ok, ok_bind, if_pos rfl, g3, nox_ok, ok_bind]
    dsimp only [imK]
    rw [cif_pos hc, e']
    simp
theorem rg_map (n : Nat) : rgL 0 1 n = (List.range n).map fun (i : Nat) => D.int (i : Int) := by
  unfold rgL
  exact List.map_congr_left fun i _ => by simp
theorem rg_map' (lo : Int) (n : Nat) : rgL lo 1 n = (List.range n).map fun (i : Nat) => D.int (lo + (i : Int)) := by
  unfold rgL
  exact List.map_congr_left fun i _ => by simp
theorem is_take_eq {w : Pw} (h : w.ok) : ff_is_take [.im (pw w)] = .ok (.im (.bl (decide (w.ar = 1)))) [.im (pw w)] := by
  cases w with
  | gv => simp [ff_is_take, fDef_eq, fb_is_take, late, pw, s_sl, cutS_mk, cutL_1, Pw.ar, mkS_inj]
  | tk n =>
    have : n.length + 1 ≤ 16777216 := by have := h.2.1; omega
    simp [ff_is_take, fDef_eq, fb_is_take, late, pw, s_sl, cutS_mk, cutL_1, Pw.ar, mkS_inj, this]
  | us n =>
    have : n.length ≤ 16777216 := by have := h.2.1; omega
    have h1 : n.take 1 ≠ [47] := by
      intro e
      cases n with
      | nil => cases e
      | cons c r =>
        have := h.2.2 c (by simp)
        simp at e
        omega
    simp [ff_is_take, fDef_eq, fb_is_take, late, pw, s_sl, cutS_mk, cutL_1, Pw.ar, mkS_inj, this, h1]
/-! ### choose -/
def chO (many : Int) (few : Nat) : Option Int := foldO (fun (t : Nat) f => if mulSm f (many - (t : Int)) = true then some (f * (many - (t : Int)) / ((t : Int) + 1)) else none) (List.range few) 1
theorem choose_sim {many : Int} {few : Nat} {r : Int} (hf : few ≤ 1000) (h : chO many few = some r) : ff_choose [.im (.int many), .im (.int (few : Nat))] = .ok (.im (.int r)) [.im (.int many), .im (.int (few : Nat))] := by
  obtain ⟨s', e, o3, rfl⟩ := forL_sim (tg := gName 3) (body := fb_choose_1) (fun (i : Nat) => D.int (i : Int)) (fun (f : Int) s => ∃ o3, s = [some (.im (.int many)), some (.im (.int (few : Nat))), some (.im (.int f)), o3]) _ (List.range few) 1 r [some (.im (.int many)), some (.im (.int (few : Nat))), some (.im (.int 1)), none] (fun t ht a b s hr hs => by
    obtain ⟨o3, rfl⟩ := hr
    have ht' : t < few := List.mem_range.mp ht
    by_cases hm : mulSm a (many - (t : Int)) = true
    · rw [if_pos hm] at hs
      cases hs
      have h1 : 0 < (t : Int) + 1 := by omega
      have h2 : ((t : Int) + 1).natAbs.log2 < 9000 := by
        have : ((t : Int) + 1).natAbs = t + 1 := by omega
        rw [this]
        exact Nat.lt_of_le_of_lt (Nat.log2_le_self _) (by omega)
      exact ⟨_, _, rfl, by simp [fb_choose_1, late, hm, h1, h2]; rfl, _, rfl⟩
    · rw [if_neg hm] at hs; cases hs) ⟨_, rfl⟩ h
  have z : (few : Int) < 4611686018427387904 := by omega
  rw [← rg_map] at e
  simp [-rgL, ff_choose, fDef_eq, fb_choose, late, z, e]
/-! ### weight -/
def rwD (rows : List (List Int)) : D := .lst (rows.map fun r => .lst (r.map .int))
def at2 (rows : List (List Int)) (i j : Int) : Option Int := (atI rows i).bind fun r => atI r j
theorem atI_map {α β : Type} (f : α → β) (xs : List α) (i : Int) : atI (xs.map f) i = (atI xs i).map f := by
  unfold atI
  rw [List.length_map]
  cases ixN xs.length i with
  | none => rfl
  | some j => simp
theorem at2_row {rows : List (List Int)} {i j v : Int} (h : at2 rows i j = some v) : ∃ r : List Int, atI (rows.map fun r => D.lst (r.map D.int)) i = some (D.lst (r.map D.int)) ∧ atI (r.map D.int) j = some (D.int v) := by
  obtain ⟨r, h1, h2⟩ := bind_some h
  exact ⟨r, by rw [atI_map, h1]; rfl, by rw [atI_map, h2]; rfl⟩
def wtO (rows : List (List Int)) (size names first few : Int) : Option Int := if first + 1 < few ∨ size - first < names - few then some 0 else (at2 rows first few).bind fun a => (at2 rows (size - 1 - first) (names - few)).bind fun b => if mulSm a b = true then some (a * b) else none
theorem weight_sim {rows : List (List Int)} {size names first few v : Int} (h : wtO rows size names first few = some v) : ff_weight [.im (rwD rows), .im (.int size), .im (.int names), .im (.int first), .im (.int few)] = .ok (.im (.int v)) [.im (rwD rows), .im (.int size), .im (.int names), .im (.int first), .im (.int few)] := by
  unfold wtO at h
  by_cases hc : first + 1 < few ∨ size - first < names - few
  · rw [if_pos hc] at h
    cases h
    unfold rwD
    by_cases h1 : first + 1 < few
    · simp [ff_weight, fDef_eq, fb_weight, late, h1]
    · have h2 : size - first < names - few := hc.resolve_left h1
      simp [ff_weight, fDef_eq, fb_weight, late, h1, h2]
  · rw [if_neg hc] at h
    obtain ⟨a, h1, h⟩ := bind_some h
    obtain ⟨b, h2, h⟩ := bind_some h
    by_cases hm : mulSm a b = true
    · rw [if_pos hm] at h
      cases h
      obtain ⟨r1, a1, a2⟩ := at2_row h1
      obtain ⟨r2, b1, b2⟩ := at2_row h2
      have c1 : ¬ first + 1 < few := fun z => hc (.inl z)
      have c2 : ¬ size - first < names - few := fun z => hc (.inr z)
      unfold rwD
      simp [ff_weight, fDef_eq, fb_weight, late, c1, c2, a1, a2, b1, b2, hm]
    · rw [if_neg hm] at h; cases h
/-! ### extending -/
def exO (rows : List (List Int)) (size names first few least : Int) : Option Int :=
  if -900 ≤ names - least ∧ names - least ≤ 900 then (mapO (fun (i : Nat) => (chO (names - least) i).bind fun a => (wtO rows size names first (few + (i : Int))).bind fun b => if mulSm a b = true then some (a * b) else none) (List.range (names - least + 1).toNat)).map List.sum else none
theorem extending_sim {rows : List (List Int)} {size names first few least v : Int} (h : exO rows size names first few least = some v) :
    ff_extending [.im (rwD rows), .im (.int size), .im (.int names), .im (.int first), .im (.int few), .im (.int least)] = .ok (.im (.int v)) [.im (rwD rows), .im (.int size), .im (.int names), .im (.int first), .im (.int few), .im (.int least)] := by
  unfold exO at h
  by_cases hb : -900 ≤ names - least ∧ names - least ≤ 900
  case neg => rw [if_neg hb] at h; cases h
  rw [if_pos hb] at h
  obtain ⟨h2, h1⟩ := hb
  obtain ⟨ys, h3, rfl⟩ := Option.map_eq_some_iff.mp h
  obtain ⟨n, hn⟩ : ∃ n, n = (names - least + 1).toNat := ⟨_, rfl⟩
  rw [← hn] at h3
  obtain ⟨s', e, hw⟩ := lcL_sim (vs := [7]) (tg := gName 7) (t := tYes) (ef := fOp mulF (oE (fCall 2 ff_choose (rO 6 (rO 7 rNil)))) (oE (fCall 5 ff_weight (rO 0 (rO 1 (rO 2 (rO 3 (rE (fOp addF (oV 4) (oV 7)) rNil)))))))) (fun (i : Nat) => D.int (i : Int)) D.int _ (s0 := [some (.im (rwD rows)), some (.im (.int size)), some (.im (.int names)), some (.im (.int first)), some (.im (.int few)), some (.im (.int least)), some (.im (.int (names - least))), none]) (List.range n) ys [some (.im (rwD rows)), some (.im (.int size)), some (.im (.int names)), some (.im (.int first)), some (.im (.int few)), some (.im (.int least)), some (.im (.int (names - least))), none] [] rfl (by simp; omega) (fun i hi y hy => by
    have hi' : i < n := List.mem_range.mp hi
    obtain ⟨a, g1, hy⟩ := bind_some hy
    obtain ⟨b, g2, hy⟩ := bind_some hy
    by_cases hm : mulSm a b = true
    · rw [if_pos hm] at hy
      cases hy
      have c1 := choose_sim (by omega) g1
      have c2 := weight_sim g2
      refine ⟨[some (.im (rwD rows)), some (.im (.int size)), some (.im (.int names)), some (.im (.int first)), some (.im (.int few)), some (.im (.int least)), some (.im (.int (names - least))), some (.im (.int (i : Int)))], _, [some (.im (rwD rows)), some (.im (.int size)), some (.im (.int names)), some (.im (.int first)), some (.im (.int few)), some (.im (.int least)), some (.im (.int (names - least))), some (.im (.int (i : Int)))], rfl, rfl, ?_, rfl⟩
      unfold rwD at c2 ⊢
      simp [late, c1, c2, hm]
    · rw [if_neg hm] at hy; cases hy) h3
  have hw' : s'.set 7 none = [some (.im (rwD rows)), some (.im (.int size)), some (.im (.int names)), some (.im (.int first)), some (.im (.int few)), some (.im (.int least)), some (.im (.int (names - least))), none] := hw
  have z1 : names - least + 1 < 4611686018427387904 := by omega
  have z2 : -4611686018427387904 ≤ names - least + 1 := by omega
  have hi := intsF_map ys
  rw [← rg_map, List.nil_append] at e
  unfold rwD at e hw' ⊢
  simp [-rgL, ff_extending, fDef_eq, fb_extending, late, z1, z2, ← hn, e, hw', hi]
end Once

/-! FA47b: pick. -/
namespace Once
open PySem PySem.Spec L2 OD F
def pk1 (rows : List (List Int)) (size names : Int) : Nat → Int → Int → Int → Option (Int × Int × Int)
  | 0, _, _, _ => none
  | k + 1, num, first, block => if num < block then some (num, first, block) else (exO rows size names (first + 1) 0 0).bind fun b => pk1 rows size names k (num - block) (first + 1) b
def pk2 (rows : List (List Int)) (size names first : Int) (n : Nat) : Nat → Int → Int → Int → Option (Int × Int × Int)
  | 0, _, _, _ => none
  | k + 1, num, least, block => if num < block then some (num, least, block) else (exO rows size names first ((n : Int) + 1) (least + 1 + 1)).bind fun b => pk2 rows size names first n k (num - block) (least + 1) b
def pk3 (rows : List (List Int)) (size names first : Int) : Nat → Int → List Int → Int → Option (Int × List Int)
  | 0, _, _, _ => none
  | k + 1, num, ages, least => (wtO rows size names first (ages.length : Nat)).bind fun w => if num < w then some (num, ages) else
      (exO rows size names first ((ages.length : Int) + 1) (least + 1)).bind fun b => (pk2 rows size names first ages.length 20 (num - w) least b).bind fun r => if ages.length < 1000 then pk3 rows size names first k r.1 (ages ++ [r.2.1]) (r.2.1 + 1) else none
def pkO (rows : List (List Int)) (size names num : Int) : Option (Int × List Int × Int) :=
  (exO rows size names 0 0 0).bind fun b => (pk1 rows size names 20 num 0 b).bind fun r => (pk3 rows size names r.2.1 20 r.1 [] 0).map fun q => (r.2.1, q.2, q.1)
theorem pk1_sim {rows : List (List Int)} {size names : Int} {o6 o7 : Option Sv} : ∀ (k : Nat) (num first block num' first' block' : Int), pk1 rows size names k num first block = some (num', first', block') →
    fWhile (fTest (fOp geF (oV 3) (oV 5))) fb_pick_1 [some (.im (rwD rows)), some (.im (.int size)), some (.im (.int names)), some (.im (.int num)), some (.im (.int first)), some (.im (.int block)), o6, o7]
      = .nx [some (.im (rwD rows)), some (.im (.int size)), some (.im (.int names)), some (.im (.int num')), some (.im (.int first')), some (.im (.int block')), o6, o7] := by
  intro k
  induction k with
  | zero => intro _ _ _ _ _ _ h; cases h
  | succ k ih =>
    intro num first block num' first' block' h
    unfold pk1 at h
    by_cases hc : num < block
    · rw [if_pos hc] at h
      cases h
      exact while_stop (by unfold rwD; simp [hc])
    · rw [if_neg hc] at h
      obtain ⟨b, h1, h⟩ := bind_some h
      have e := extending_sim h1
      have hc' : block ≤ num := by omega
      refine while_step (s1 := [some (.im (rwD rows)), some (.im (.int size)), some (.im (.int names)), some (.im (.int num)), some (.im (.int first)), some (.im (.int block)), o6, o7]) (by unfold rwD; simp [hc']) ?_ (ih _ _ _ _ _ _ h) (fun z => by cases z)
      unfold rwD at e ⊢
      simp [fb_pick_1, late, e]
theorem pk2_sim {rows : List (List Int)} {size names first : Int} {ages : List Int} : ∀ (k : Nat) (num least block num' least' block' : Int), pk2 rows size names first ages.length k num least block = some (num', least', block') →
    fWhile (fTest (fOp geF (oV 3) (oV 5))) fb_pick_2 [some (.im (rwD rows)), some (.im (.int size)), some (.im (.int names)), some (.im (.int num)), some (.im (.int first)), some (.im (.int block)), some (.lst (ages.map D.int)), some (.im (.int least))]
      = .nx [some (.im (rwD rows)), some (.im (.int size)), some (.im (.int names)), some (.im (.int num')), some (.im (.int first)), some (.im (.int block')), some (.lst (ages.map D.int)), some (.im (.int least'))] := by
  intro k
  induction k with
  | zero => intro _ _ _ _ _ _ h; cases h
  | succ k ih =>
    intro num least block num' least' block' h
    unfold pk2 at h
    by_cases hc : num < block
    · rw [if_pos hc] at h
      cases h
      exact while_stop (by unfold rwD; simp [hc])
    · rw [if_neg hc] at h
      obtain ⟨b, h1, h⟩ := bind_some h
      have e := extending_sim h1
      have hc' : block ≤ num := by omega
      refine while_step (s1 := [some (.im (rwD rows)), some (.im (.int size)), some (.im (.int names)), some (.im (.int num)), some (.im (.int first)), some (.im (.int block)), some (.lst (ages.map D.int)), some (.im (.int least))]) (by unfold rwD; simp [hc']) ?_ (ih _ _ _ _ _ _ h) (fun z => by cases z)
      unfold rwD at e ⊢
      simp [fb_pick_2, late, e]
theorem pk3_sim {rows : List (List Int)} {size names first : Int} : ∀ (k : Nat) (num : Int) (ages : List Int) (least : Int) (block num' : Int) (ages' : List Int), pk3 rows size names first k num ages least = some (num', ages') →
    ∃ block' least', fWhile (fTest (fOp geF (oV 3) (oE (fCall 5 ff_weight (rO 0 (rO 1 (rO 2 (rO 4 (rE (fCB lenF (lCons (oV 6) lNil)) rNil))))))))) fb_pick_3 [some (.im (rwD rows)), some (.im (.int size)), some (.im (.int names)), some (.im (.int num)), some (.im (.int first)), some (.im (.int block)), some (.lst (ages.map D.int)), some (.im (.int least))]
      = .nx [some (.im (rwD rows)), some (.im (.int size)), some (.im (.int names)), some (.im (.int num')), some (.im (.int first)), some (.im (.int block')), some (.lst (ages'.map D.int)), some (.im (.int least'))] := by
  intro k
  induction k with
  | zero => intro _ _ _ _ _ _ h; cases h
  | succ k ih =>
    intro num ages least block num' ages' h
    unfold pk3 at h
    obtain ⟨w, h1, h⟩ := bind_some h
    have e1 := weight_sim h1
    by_cases hc : num < w
    · rw [if_pos hc] at h
      cases h
      exact ⟨block, least, while_stop (by unfold rwD at e1 ⊢; simp [hc, e1])⟩
    · rw [if_neg hc] at h
      obtain ⟨b, h2, h⟩ := bind_some h
      obtain ⟨⟨n2, l2, b2⟩, h3, h⟩ := bind_some h
      by_cases hl : ages.length < 1000
      case neg => rw [if_neg hl] at h; cases h
      rw [if_pos hl] at h
      have e2 := extending_sim h2
      have e3 := pk2_sim 20 _ _ _ _ _ _ h3
      obtain ⟨block', least', e4⟩ := ih n2 (ages ++ [l2]) (l2 + 1) b2 num' ages' h
      refine ⟨block', least', ?_⟩
      have hc' : w ≤ num := by omega
      have hl' : ages.length < 16777216 := by omega
      refine while_step (s1 := [some (.im (rwD rows)), some (.im (.int size)), some (.im (.int names)), some (.im (.int num)), some (.im (.int first)), some (.im (.int block)), some (.lst (ages.map D.int)), some (.im (.int least))]) (by unfold rwD at e1 ⊢; simp [hc', e1]) ?_ e4 (fun z => by cases z)
      unfold rwD at e1 e2 e3 ⊢
      simp [fb_pick_3, late, e1, e2, e3, hl']
theorem pick_sim {rows : List (List Int)} {size names num : Int} {first num' : Int} {ages : List Int} (h : pkO rows size names num = some (first, ages, num')) :
    ff_pick [.im (rwD rows), .im (.int size), .im (.int names), .im (.int num)] = .ok (.im (.tup [.int first, .lst (ages.map D.int), .int num'])) [.im (rwD rows), .im (.int size), .im (.int names), .im (.int num)] := by
  unfold pkO at h
  obtain ⟨b, h1, h⟩ := bind_some h
  obtain ⟨⟨n2, f2, b2⟩, h2, h⟩ := bind_some h
  obtain ⟨⟨n3, a3⟩, h3, h⟩ := Option.map_eq_some_iff.mp h
  cases h
  have e1 := extending_sim h1
  have e2 := pk1_sim (o6 := none) (o7 := none) 20 _ _ _ _ _ _ h2
  obtain ⟨b4, l4, e4⟩ := pk3_sim 20 _ _ _ b2 _ _ h3
  unfold rwD at e1 e2 e4 ⊢
  rw [List.map_nil] at e4
  simp [ff_pick, fDef_eq, fb_pick, late, e1, e2, e4]
end Once

/-! FA47c: build. -/
namespace Once
open PySem PySem.Spec L2 OD F
/-- a comprehension, some left out -/
theorem lcP_sim {α β : Type} {vs : List Nat} {tg : FG} {t : FT} {ef : FE} (e : α → D) (d : β → D) (p : α → Bool) (f : α → β) {s0 : Sl} : ∀ (xs : List α) (s : Sl) (acc : List D), wipeF s vs = s0 → acc.length + xs.length ≤ 16777216 →
    (∀ x ∈ xs, ∃ s1 s2, tg (e x) s0 = some s1 ∧ t s1 = .ok (p x) s2 ∧ wipeF s2 vs = s0 ∧ (p x = true → ∃ s3, ef s2 = .ok (.im (d (f x))) s3 ∧ wipeF s3 vs = s0)) →
    ∃ s', lcL vs tg t ef (xs.map e) s acc = .ok (acc ++ ((xs.filter p).map f).map d) s' ∧ wipeF s' vs = s0 := by
  intro xs
  induction xs with
  | nil => intro s acc h _ _; exact ⟨s, by simp, h⟩
  | cons x xs ih =>
    intro s acc h hl hx
    obtain ⟨s1, s2, h1, h2, h3, h4⟩ := hx x (by simp)
    rw [List.length_cons] at hl
    rw [List.map_cons]
    unfold lcL
    rw [h, h1]
    dsimp only
    rw [h2, nox_ok, ok_bind]
    cases hp : p x with
    | true =>
      obtain ⟨s3, h5, h6⟩ := h4 hp
      obtain ⟨s', g1, g2⟩ := ih s3 (acc ++ [d (f x)]) h6 (by rw [List.length_append, List.length_singleton]; omega) fun y hy => hx y (List.mem_cons_of_mem _ hy)
      refine ⟨s', ?_, g2⟩
      rw [if_pos rfl, h5, nox_ok, ok_bind]
      show cif (acc.length < 16777216) _ _ = _
      rw [cif_pos (by omega), g1, List.filter_cons_of_pos hp]
      simp
    | false =>
      obtain ⟨s', g1, g2⟩ := ih s2 acc h3 (by omega) fun y hy => hx y (List.mem_cons_of_mem _ hy)
      refine ⟨s', ?_, g2⟩
      rw [if_neg Bool.false_ne_true, g1, List.filter_cons_of_neg (by rw [hp]; exact Bool.false_ne_true)]
abbrev nsD (ns : List (List Nat)) : D := .lst (ns.map fun n => .str (mkS n))
def tkC (ws : List Pw) : Nat := (ws.filter fun w => decide (w.ar = 1)).length
def bwO (rows : List (List Int)) (size num : Int) : Nat → List (List Nat) → List Pw → Option (List (List Nat) × List Pw)
  | 0, _, _ => none
  | k + 1, ns, ws => (at2 rows size ((ns.length : Int) + 1)).bind fun r => if num < r then (if ns.length < 1000 ∧ ws.length < 1000 then bwO rows size num k (ns ++ [letters (tkC ws)]) (ws ++ [.tk (letters (tkC ws))]) else none) else some (ns, ws)
theorem bwO_sim {rows : List (List Int)} {size num : Int} {o5 o6 o8 o9 o10 : Option Sv} : ∀ (k : Nat) (ns : List (List Nat)) (ws : List Pw) (ns' : List (List Nat)) (ws' : List Pw) (o7 : Option Sv), bwO rows size num k ns ws = some (ns', ws') → (∀ n ∈ ns, okn n) → (∀ w ∈ ws, w.ok) → (o7 = none ∨ ∃ d, o7 = some (.im d)) →
    (∀ n ∈ ns', okn n) ∧ (∀ w ∈ ws', w.ok) ∧ ∃ o7' r, (o7' = none ∨ ∃ d, o7' = some (.im d)) ∧ fWhile (fTest (fOp ltF (oV 3) (oE (fOp ixF (oE (fOp ixF (oV 0) (oV 1))) (oE (fOp addF (oE (fCB lenF (lCons (oV 2) lNil))) (oE (fC (.int 1))))))))) (fb_build_1 fb) [some (.im (rwD rows)), some (.im (.int size)), some (.im (nsD ns)), some (.im (.int num)), some (.lst (ws.map pw)), o5, o6, o7, o8, o9, o10, none]
      = .nx [some (.im (rwD rows)), some (.im (.int size)), some (.im (nsD ns')), some (.im (.int num)), some (.lst (ws'.map pw)), o5, o6, o7', o8, o9, o10, none] ∧ at2 rows size ((ns'.length : Int) + 1) = some r ∧ ¬ num < r := by
  intro k
  induction k with
  | zero => intro _ _ _ _ _ h; cases h
  | succ k ih =>
    intro ns ws ns' ws' o7 h hn hw h7
    unfold bwO at h
    obtain ⟨r, h1, h⟩ := bind_some h
    obtain ⟨R, a1, a2⟩ := at2_row h1
    by_cases hc : num < r
    · rw [if_pos hc] at h
      by_cases hl : ns.length < 1000 ∧ ws.length < 1000
      case neg => rw [if_neg hl] at h; cases h
      rw [if_pos hl] at h
      obtain ⟨l1, l2⟩ := hl
      have ht : tkC ws < 1000 := Nat.lt_of_le_of_lt (List.length_filter_le _ _) l2
      have hk := letters_ok (n := tkC ws) (by omega)
      obtain ⟨b1, b2, o7', r', k7, e, h4, h5⟩ := ih (ns ++ [letters (tkC ws)]) (ws ++ [.tk (letters (tkC ws))]) ns' ws' (some (.im (.str (mkS (letters (tkC ws)))))) h (fun n hm => by
        rcases List.mem_append.mp hm with hm | hm
        · exact hn n hm
        · cases List.mem_singleton.mp hm; exact hk) (fun w hm => by
        rcases List.mem_append.mp hm with hm | hm
        · exact hw w hm
        · cases List.mem_singleton.mp hm; exact hk) (.inr ⟨_, rfl⟩)
      refine ⟨b1, b2, o7', r', k7, ?_, h4, h5⟩
      refine while_step (s1 := [some (.im (rwD rows)), some (.im (.int size)), some (.im (nsD ns)), some (.im (.int num)), some (.lst (ws.map pw)), o5, o6, o7, o8, o9, o10, none]) (by unfold rwD nsD; simp [hc, a1, a2]) ?_ e (fun z => by cases z)
      obtain ⟨s', e1, e2⟩ := lcP_sim (vs := [11]) (tg := gName 11) (t := fTru (oE (fCall 1 ff_is_take (rO 11 rNil)))) (ef := fVar 11) pw pw (fun w => decide (w.ar = 1)) id (s0 := [some (.im (rwD rows)), some (.im (.int size)), some (.im (nsD ns)), some (.im (.int num)), none, o5, o6, o7, o8, o9, o10, none]) ws [some (.im (rwD rows)), some (.im (.int size)), some (.im (nsD ns)), some (.im (.int num)), none, o5, o6, o7, o8, o9, o10, none] [] rfl (by simp; omega) (fun w hm => by
        have := is_take_eq (hw w hm)
        refine ⟨_, [some (.im (rwD rows)), some (.im (.int size)), some (.im (nsD ns)), some (.im (.int num)), none, o5, o6, o7, o8, o9, o10, some (.im (pw w))], rfl, ?_, rfl, fun _ => ⟨_, rfl, rfl⟩⟩
        simp [this])
      have e2' : s'.set 11 none = [some (.im (rwD rows)), some (.im (.int size)), some (.im (nsD ns)), some (.im (.int num)), none, o5, o6, o7, o8, o9, o10, none] := e2
      have e3 := letters_name_eq (n := tkC ws) (by omega)
      have e4 : ((List.filter (fun w => decide (w.ar = 1)) ws).length : Nat) = tkC ws := rfl
      have hk2 := hk.2.1
      have z1 : 1 + (letters (tkC ws)).length ≤ 16777216 := by omega
      have z3 : (letters (tkC ws)).length + 1 ≤ 16777216 := by omega
      have z2 : ws.length < 16777216 := by omega
      have z4 : ns.length + 1 ≤ 16777216 := by omega
      unfold nsD rwD at e1 e2' ⊢
      simp [fb_build_1, late, e1, e2', e3, e4, z1, z2, z3, z4, s_sl, pw]
    · rw [if_neg hc] at h
      cases h
      exact ⟨hn, hw, o7, r, h7, while_stop (by unfold rwD nsD; simp [hc, a1, a2]), h1, hc⟩
end Once

/-! FA47d: build. -/
namespace Once
open PySem PySem.Spec L2 OD F
theorem scals_ints (us : List Int) : scals (us.map D.int) = some (us.map V.int) := by
  induction us with
  | nil => rfl
  | cons u r ih => simp [scals, OD.scal, ih]
theorem in_ints (n : Int) (us : List Int) : inW (.int n) (.lst (us.map D.int)) = some (decide (n ∈ us)) := by
  show (match OD.scal (.int n), scals (us.map D.int) with | some v, some vs => some (inV v vs) | _, _ => none) = _
  rw [scals_ints]
  show some (inV (.int n) _) = _
  congr 1
  induction us with
  | nil => simp [inV]
  | cons u r ih =>
    have e : eqV (V.int u) (V.int n) = decide (n = u) := by
      show (u == n) = _
      by_cases h : n = u
      · subst h; simp
      · have : ¬ u = n := fun z => h z.symm
        simp [h, this]
    simp [inV] at ih ⊢
    rw [ih, e]
theorem atI_mem {α : Type} {xs : List α} {i : Int} {x : α} (h : atI xs i = some x) : x ∈ xs := by
  unfold atI at h
  cases e : ixN xs.length i with
  | none => rw [e] at h; cases h
  | some j => rw [e] at h; exact List.mem_of_getElem? h
theorem enum_names (ns : List (List Nat)) : enumL (ns.map fun n => D.str (mkS n)) = (ns.mapIdx fun i n => ((i : Int), n)).map fun p => D.tup [.int p.1, .str (mkS p.2)] := by
  unfold enumL
  refine List.ext_getElem (by simp) fun j h1 h2 => ?_
  simp
theorem restF_self (s : Sl) : ∀ vs : List Nat, restF s s vs = s := by
  intro vs
  induction vs with
  | nil => rfl
  | cons v vs ih =>
    rw [restF_cons, ih]
    refine List.ext_getElem? fun j => ?_
    by_cases z : v = j
    · subst z
      by_cases h : v < s.length
      · rw [List.getElem?_set_self h, List.getElem?_eq_getElem h]
        rfl
      · rw [List.getElem?_eq_none (by rw [List.length_set]; omega), List.getElem?_eq_none (by omega)]
    · rw [List.getElem?_set_ne z]
theorem set_set_none {s t : Sl} {v : Nat} {o : Option Sv} (h : s.set v none = t.set v none) : s.set v o = t.set v o := by
  have : (s.set v none).set v o = (t.set v none).set v o := by rw [h]
  rwa [List.set_set, List.set_set] at this
theorem restF_wipe (s0 : Sl) {s t : Sl} : ∀ vs : List Nat, wipeF s vs = wipeF t vs → restF s0 s vs = restF s0 t vs := by
  intro vs h
  have hl : s.length = t.length := by rw [← wipeF_len s vs, h, wipeF_len]
  refine List.ext_getElem? fun j => ?_
  by_cases hj : j ∈ vs
  · have key : ∀ (u : Sl) (vs : List Nat), j ∈ vs → (restF s0 u vs)[j]? = if j < u.length then some ((s0[j]?).getD none) else none := by
      intro u vs
      induction vs with
      | nil => intro h; cases h
      | cons v vs ih =>
        intro hm
        rw [restF_cons]
        by_cases z : v = j
        · subst z
          by_cases hu : v < u.length
          · rw [if_pos hu, List.getElem?_set_self (by rw [restF_len]; exact hu)]
          · rw [if_neg hu, List.getElem?_eq_none (by rw [List.length_set, restF_len]; omega)]
        · rw [List.getElem?_set_ne z]
          exact ih ((List.mem_cons.mp hm).elim (fun w => absurd w.symm z) _root_.id)
    rw [key s vs hj, key t vs hj, hl]
  · rw [restF_out _ _ _ _ hj, restF_out _ _ _ _ hj, ← wipeF_out s vs j hj, h, wipeF_out t vs j hj]
theorem fLc_eq {it : FI} {tg : FG} {t : FT} {ef : FE} {vs : List Nat} {xs ds : List D} {s s' : Sl} (hi : it s = .ok xs s) (hv : vs.all (free s) = true) (h : lcL vs tg t ef xs s [] = .ok ds s') (hw : wipeF s' vs = wipeF s vs) : fLc it vs tg t ef s = .ok (.im (.lst ds)) s := by
  unfold fLc
  rw [hi, ok_bind, if_pos hv, h, ok_bind, restF_wipe s vs hw, restF_self]
def otO (ages : List Int) (ns : List (List Nat)) : List (List Nat) := ((ns.mapIdx fun i n => ((i : Int), n)).filter fun p => !decide (p.1 ∈ ages)).map (·.2)
def bdO (rows : List (List Int)) : Nat → Int → List (List Nat) → Int → List Pw → Option (List Pw)
  | 0, _, _, _, _ => none
  | j + 1, size, ns0, num, ws0 => (bwO rows size num 20 ns0 ws0).bind fun r => let ns := r.1; let ws := r.2
    if ws.length < 1000 ∧ ns.length < 1000 then
      if size = 0 then (atI ns 0).map fun n => ws ++ [.us n]
      else (at2 rows size ((ns.length : Int) + 1)).bind fun r => (pkO rows size (ns.length : Nat) (num - r)).bind fun q => (at2 rows (size - 1 - q.1) ((ns.length : Int) - (q.2.1.length : Nat))).bind fun right =>
        if 0 < right ∧ right.natAbs < 1000000000 ∧ q.2.1.length < 1000 then (mapO (fun a => atI ns a) q.2.1).bind fun ls => (bdO rows j q.1 ls (q.2.2 / right) (ws ++ [.gv])).bind fun ws2 => bdO rows j (size - 1 - q.1) (otO q.2.1 ns) (q.2.2 % right) ws2 else none
    else none
theorem build_sim {rows : List (List Int)} : ∀ (j : Nat) (size : Int) (ns : List (List Nat)) (num : Int) (ws ws' : List Pw), bdO rows j size ns num ws = some ws' → (∀ n ∈ ns, okn n) → (∀ w ∈ ws, w.ok) →
    (∀ w ∈ ws', w.ok) ∧ fRec 5 7 fb_build j [.im (rwD rows), .im (.int size), .im (nsD ns), .im (.int num), .lst (ws.map pw)] = .ok (.im .non) [.im (rwD rows), .im (.int size), .im (nsD ns), .im (.int num), .lst (ws'.map pw)] := by
  intro j
  induction j with
  | zero => intro _ _ _ _ _ h; cases h
  | succ j ih =>
    intro size ns0 num ws0 ws' h hn hw
    unfold bdO at h
    obtain ⟨⟨ns, ws⟩, h1, h⟩ := bind_some h
    dsimp only at h
    obtain ⟨n1, w1, o7, r, k7, e1, h2, hc⟩ := bwO_sim (fb := fRec 5 7 fb_build j) (o5 := none) (o6 := none) (o8 := none) (o9 := none) (o10 := none) 20 ns0 ws0 ns ws none h1 hn hw (.inl rfl)
    by_cases hl : ws.length < 1000 ∧ ns.length < 1000
    case neg => rw [if_neg hl] at h; cases h
    rw [if_pos hl] at h
    obtain ⟨l1, l2⟩ := hl
    have z1 : ws.length < 16777216 := by omega
    have fr : fRec 5 7 fb_build (j + 1) = fDef 5 7 (fb_build (fRec 5 7 fb_build j)) := rfl
    by_cases h0 : size = 0
    · rw [if_pos h0] at h
      obtain ⟨n, h3, rfl⟩ := Option.map_eq_some_iff.mp h
      have a1 : atI (ns.map fun n => D.str (mkS n)) 0 = some (.str (mkS n)) := by rw [atI_map, h3]; rfl
      have hmem : n ∈ ns := atI_mem h3
      refine ⟨fun w hm => by
        rcases List.mem_append.mp hm with hm | hm
        · exact w1 w hm
        · cases List.mem_singleton.mp hm; exact n1 n hmem, ?_⟩
      subst h0
      rw [fr]
      unfold rwD nsD at e1 ⊢
      simp [fDef_eq, fb_build, late, e1, a1, z1, pw]
    · rw [if_neg h0] at h
      obtain ⟨r', h3, h⟩ := bind_some h
      rw [h2] at h3
      cases h3
      obtain ⟨⟨first, ages, num2⟩, h4, h⟩ := bind_some h
      obtain ⟨right, h5, h⟩ := bind_some h
      dsimp only at h5 h
      by_cases hr : 0 < right ∧ right.natAbs < 1000000000 ∧ ages.length < 1000
      case neg => rw [if_neg hr] at h; cases h
      rw [if_pos hr] at h
      obtain ⟨r0, r1, r2⟩ := hr
      obtain ⟨ls, h6, h⟩ := bind_some h
      obtain ⟨ws2, h7, h⟩ := bind_some h
      have hls : ∀ n ∈ ls, okn n := by
        have key : ∀ (as : List Int) (ls : List (List Nat)), mapO (fun a => atI ns a) as = some ls → ∀ n ∈ ls, okn n := by
          intro as
          induction as with
          | nil => intro ls h; cases h; simp
          | cons a as ih2 =>
            intro ls h
            obtain ⟨y, g1, h⟩ := bind_some h
            obtain ⟨ys, g2, rfl⟩ := Option.map_eq_some_iff.mp h
            intro n hm
            rcases List.mem_cons.mp hm with rfl | hm
            · exact n1 _ (atI_mem g1)
            · exact ih2 ys g2 n hm
        exact key ages ls h6
      have hot : ∀ n ∈ otO ages ns, okn n := by
        intro n hm
        obtain ⟨p, hp, rfl⟩ := List.mem_map.mp hm
        have := (List.mem_filter.mp hp).1
        obtain ⟨i, hi, rfl⟩ := List.mem_mapIdx.mp this
        exact n1 _ (List.getElem_mem hi)
      have e2 := pick_sim h4
      obtain ⟨b1, b2, b3⟩ := at2_row h2
      obtain ⟨c1, c2, c3⟩ := at2_row h5
      obtain ⟨w2, e3⟩ := ih first ls (num2 / right) (ws ++ [.gv]) ws2 h7 hls (fun w hm => by
        rcases List.mem_append.mp hm with hm | hm
        · exact w1 w hm
        · cases List.mem_singleton.mp hm; trivial)
      obtain ⟨w3, e4⟩ := ih (size - 1 - first) (otO ages ns) (num2 % right) ws2 ws' h hot w2
      refine ⟨w3, ?_⟩
      have lg : right.natAbs.log2 < 9000 := log_small (by omega)
      rw [fr]
      -- the two rows
      have f1 : ∀ o8 o5 : Sv, fLc (iSeq (fVar 9)) [10] (gName 10) tYes (fOp ixF (oV 2) (oV 10)) [some (.im (rwD rows)), some (.im (.int size)), some (.im (nsD ns)), some (.im (.int num2)), some (.lst ((ws ++ [Pw.gv]).map pw)), some o5, none, o7, some o8, some (.im (.lst (ages.map D.int))), none, none]
          = .ok (.im (nsD ls)) [some (.im (rwD rows)), some (.im (.int size)), some (.im (nsD ns)), some (.im (.int num2)), some (.lst ((ws ++ [Pw.gv]).map pw)), some o5, none, o7, some o8, some (.im (.lst (ages.map D.int))), none, none] := by
        intro o8 o5
        obtain ⟨s', g1, g2⟩ := lcL_sim (vs := [10]) (tg := gName 10) (t := tYes) (ef := fOp ixF (oV 2) (oV 10)) D.int (fun n : List Nat => D.str (mkS n)) (fun a => atI ns a) (s0 := [some (.im (rwD rows)), some (.im (.int size)), some (.im (nsD ns)), some (.im (.int num2)), some (.lst ((ws ++ [Pw.gv]).map pw)), some o5, none, o7, some o8, some (.im (.lst (ages.map D.int))), none, none]) ages ls [some (.im (rwD rows)), some (.im (.int size)), some (.im (nsD ns)), some (.im (.int num2)), some (.lst ((ws ++ [Pw.gv]).map pw)), some o5, none, o7, some o8, some (.im (.lst (ages.map D.int))), none, none] [] rfl (by simp; omega) (fun a ha y hy => by
          have a1 : atI (ns.map fun n => D.str (mkS n)) a = some (.str (mkS y)) := by rw [atI_map, hy]; rfl
          refine ⟨_, _, [some (.im (rwD rows)), some (.im (.int size)), some (.im (nsD ns)), some (.im (.int num2)), some (.lst ((ws ++ [Pw.gv]).map pw)), some o5, none, o7, some o8, some (.im (.lst (ages.map D.int))), some (.im (.int a)), none], rfl, rfl, ?_, rfl⟩
          simp [a1]) h6
        exact fLc_eq (by simp) (by simp) g1 (by rw [g2]; rfl)
      have f2 : ∀ o8 o5 : Sv, fLc (iEnum (fCons (fVar 2) fNil)) [10, 7] (gTup 2 (gCons (gName 10) (gCons (gName 7) gNil))) (fTest (fOp (inF true) (oV 10) (oV 9))) (fVar 7) [some (.im (rwD rows)), some (.im (.int size)), some (.im (nsD ns)), some (.im (.int num2)), some (.lst (ws2.map pw)), some o5, none, o7, some o8, some (.im (.lst (ages.map D.int))), none, none]
          = .ok (.im (nsD (otO ages ns))) [some (.im (rwD rows)), some (.im (.int size)), some (.im (nsD ns)), some (.im (.int num2)), some (.lst (ws2.map pw)), some o5, none, o7, some o8, some (.im (.lst (ages.map D.int))), none, none] := by
        intro o8 o5
        obtain ⟨s', g1, g2⟩ := lcP_sim (vs := [10, 7]) (tg := gTup 2 (gCons (gName 10) (gCons (gName 7) gNil))) (t := fTest (fOp (inF true) (oV 10) (oV 9))) (ef := fVar 7) (fun p : Int × List Nat => D.tup [.int p.1, .str (mkS p.2)]) (fun n : List Nat => D.str (mkS n)) (fun p => !decide (p.1 ∈ ages)) (·.2)
          (s0 := [some (.im (rwD rows)), some (.im (.int size)), some (.im (nsD ns)), some (.im (.int num2)), some (.lst (ws2.map pw)), some o5, none, none, some o8, some (.im (.lst (ages.map D.int))), none, none]) (ns.mapIdx fun i n => ((i : Int), n))
          [some (.im (rwD rows)), some (.im (.int size)), some (.im (nsD ns)), some (.im (.int num2)), some (.lst (ws2.map pw)), some o5, none, o7, some o8, some (.im (.lst (ages.map D.int))), none, none] [] rfl (by simp; omega) (fun p hp => by
          refine ⟨_, [some (.im (rwD rows)), some (.im (.int size)), some (.im (nsD ns)), some (.im (.int num2)), some (.lst (ws2.map pw)), some o5, none, some (.im (.str (mkS p.2))), some o8, some (.im (.lst (ages.map D.int))), some (.im (.int p.1)), none], rfl, ?_, rfl, fun _ => ⟨_, rfl, rfl⟩⟩
          simp [in_ints])
        rw [← enum_names] at g1
        exact fLc_eq (by simp [late]) (by rcases k7 with rfl | ⟨d, rfl⟩ <;> simp) g1 (by rw [g2]; rfl)
      have hp : (ws ++ [Pw.gv]).map pw = ws.map pw ++ [D.str (mkS [64])] := by simp [pw]
      rw [hp] at e3
      simp only [hp] at f1
      unfold rwD at e1 e2 e3 e4 f1 f2 ⊢
      simp [-fLc, fDef_eq, fb_build, late, e1, e2, e3, e4, f1, f2, b2, b3, c2, c3, z1, h0, r0, lg, s_at]
end Once

/-! FA47e: the rows, worked out. -/
namespace Once
open PySem PySem.Spec L2 OD F
theorem raw_program_at_sim {rows : List (List Int)} {size num : Int} {ws : List Pw} (h : bdO rows 100 size [] num [] = some ws) : ff_raw_program_at [.im (rwD rows), .im (.int size), .im (.int num)] = .ok (.im (.tup (ws.map pw))) [.im (rwD rows), .im (.int size), .im (.int num)] := by
  obtain ⟨_, e⟩ := build_sim 100 size [] num [] ws h (by simp) (by simp)
  have e' : ff_build [.im (rwD rows), .im (.int size), .im (nsD []), .im (.int num), .lst ([].map pw)] = _ := e
  unfold nsD rwD at *
  rw [List.map_nil, List.map_nil] at e'
  simp [ff_raw_program_at, fDef_eq, fb_raw_program_at, late, e']
theorem rg0x : List.range 0 = [] := rfl
theorem rg1x : List.range 1 = [0] := rfl
theorem rg2x : List.range 2 = [0, 1] := rfl
theorem rg3x : List.range 3 = [0, 1, 2] := rfl
theorem rg4x : List.range 4 = [0, 1, 2, 3] := rfl
theorem rg5x : List.range 5 = [0, 1, 2, 3, 4] := rfl
theorem forL_cons (tg : FG) (body : FS) (x : D) (xs : List D) (s : Sl) : forL tg body (x :: xs) s = match tg x s with
    | some s => (match body s with
      | .nx s => forL tg body xs s
      | .ct s => forL tg body xs s
      | .bk s => .nx s
      | o => o)
    | none => .bad := rfl
theorem lcL_cons (vs : List Nat) (tg : FG) (t : FT) (e : FE) (x : D) (xs : List D) (s : Sl) (acc : List D) : lcL vs tg t e (x :: xs) s acc = match tg x (wipeF s vs) with
    | some s1 => (nox (t s1)).bind fun b s2 => if b = true then (nox (e s2)).bind fun w s3 => imK w fun d => cif (acc.length < 16777216) (lcL vs tg t e xs s3 (acc ++ [d])) .bad else lcL vs tg t e xs s2 acc
    | none => .bad := rfl
theorem ms12 : mulSm 1 2 = true := by decide
theorem ms23 : mulSm 2 3 = true := by decide
theorem ms64 : mulSm 6 4 = true := by decide
theorem ms245 : mulSm 24 5 = true := by decide
theorem fac_0 : ff_factorial_of [.im (.int 0)] = .ok (.im (.int 1)) [.im (.int 0)] := by simp [ff_factorial_of, fDef_eq, fb_factorial_of, fb_factorial_of_1, late]
theorem fac_1 : ff_factorial_of [.im (.int 1)] = .ok (.im (.int 1)) [.im (.int 1)] := by simp [ff_factorial_of, fDef_eq, fb_factorial_of, fb_factorial_of_1, late]
theorem fac_2 : ff_factorial_of [.im (.int 2)] = .ok (.im (.int 2)) [.im (.int 2)] := by simp [ff_factorial_of, fDef_eq, fb_factorial_of, fb_factorial_of_1, late, rg1x, forL_cons, ms12, ms23, ms64, ms245]
theorem fac_3 : ff_factorial_of [.im (.int 3)] = .ok (.im (.int 6)) [.im (.int 3)] := by simp [ff_factorial_of, fDef_eq, fb_factorial_of, fb_factorial_of_1, late, rg2x, forL_cons, ms12, ms23, ms64, ms245]
theorem fac_4 : ff_factorial_of [.im (.int 4)] = .ok (.im (.int 24)) [.im (.int 4)] := by simp [ff_factorial_of, fDef_eq, fb_factorial_of, fb_factorial_of_1, late, rg3x, forL_cons, ms12, ms23, ms64, ms245]
theorem fac_5 : ff_factorial_of [.im (.int 5)] = .ok (.im (.int 120)) [.im (.int 5)] := by simp [ff_factorial_of, fDef_eq, fb_factorial_of, fb_factorial_of_1, late, rg4x, forL_cons, ms12, ms23, ms64, ms245]
/-- the rows of the table -/
def rowsT : List (List Int) := tk tT 4
def facI : Nat → Int
  | 0 => 1
  | n + 1 => facI n * ((n : Int) + 1)
def labO (r : List Int) : Option (List Int) := mapO (fun p : Nat × Int => if p.1 ≤ 5 ∧ mulSm p.2 (facI p.1) = true then some (p.2 * facI p.1) else none) (r.mapIdx fun i x => (i, x))
theorem table_at {n : Nat} (h : n ≤ 3) : ff_table [.im (.int (n : Nat))] = .ok (.im (lli (tk tT (n + 1)))) [.im (.int (n : Nat))] := by
  show cif (0 ≤ ((n : Nat) : Int) ∧ ((n : Nat) : Int) ≤ 3) _ _ = _
  rw [cif_pos ⟨by omega, by omega⟩]
  rfl
theorem fac_at {n : Nat} (h : n ≤ 5) : ff_factorial_of [.im (.int (n : Nat))] = .ok (.im (.int (facI n))) [.im (.int (n : Nat))] := by
  match n, h with
  | 0, _ => exact fac_0
  | 1, _ => exact fac_1
  | 2, _ => exact fac_2
  | 3, _ => exact fac_3
  | 4, _ => exact fac_4
  | 5, _ => exact fac_5
theorem many_at {n : Nat} (h : n ≤ 3) {v : Int} (hv : at2 (tk tT (n + 1)) (n : Nat) 0 = some v) : ff_many [.im (.int (n : Nat)), .im (.int 0)] = .ok (.im (.int v)) [.im (.int (n : Nat)), .im (.int 0)] := by
  obtain ⟨r, h1, h2⟩ := at2_row hv
  have ht := table_at h
  have hf := fac_0
  have z1 : (0 : Int) ≤ n := by omega
  have z2 : (n : Int) ≤ 40 := by omega
  have e1 : ff_is_within [.im (.int (n : Nat)), .im (.int 0), .im (.int 40)] = .ok (.im (.bl true)) [.im (.int (n : Nat)), .im (.int 0), .im (.int 40)] := by
    simp [ff_is_within, fDef_eq, fb_is_within, ff_is_integer, fb_is_integer, late, z1, z2]
  have e2 : ff_is_within [.im (.int 0), .im (.int 0), .im (.int 40)] = .ok (.im (.bl true)) [.im (.int 0), .im (.int 0), .im (.int 40)] := by
    simp [ff_is_within, fDef_eq, fb_is_within, ff_is_integer, fb_is_integer, late]
  have e3 : lli (tk tT (n + 1)) = .lst ((tk tT (n + 1)).map fun r => D.lst (r.map D.int)) := rfl
  have e4 : mulSm v 1 = true := by
    unfold mulSm
    simp
  rw [e3] at ht
  revert ht h1
  generalize (tk tT (n + 1)).map (fun r => D.lst (r.map D.int)) = R
  intro h1 ht
  have z3 : (0 : Int) ≤ (n : Int) + 1 := by omega
  simp [ff_many, fDef_eq, fb_many, ff_check_counts, fb_check_counts, ff_check_number, fb_check_number, late, e1, e2, e4, ht, hf, h1, h2, z3]
theorem enum_ints (r : List Int) : enumL (r.map D.int) = (r.mapIdx fun i x => (i, x)).map fun p : Nat × Int => D.tup [.int (p.1 : Nat), .int p.2] := by
  unfold enumL
  refine List.ext_getElem (by simp) fun j h1 h2 => ?_
  simp
theorem labelled_at {n : Nat} (h : n ≤ 3) {R : List (List Int)} (hR : mapO labO (tk tT (n + 1)) = some R) (hl : ∀ r ∈ tk tT (n + 1), r.length ≤ 1000) : ff_labelled [.im (.int (n : Nat))] = .ok (.im (rwD R)) [.im (.int (n : Nat))] := by
  have ht := table_at h
  have e3 : lli (tk tT (n + 1)) = .lst ((tk tT (n + 1)).map fun r => D.lst (r.map D.int)) := rfl
  rw [e3] at ht
  have hL : (tk tT (n + 1)).length ≤ 1000 := by
    show ((tT.take (n + 1)).map zi).length ≤ 1000
    rw [List.length_map, List.length_take]
    omega
  revert ht hR hl hL
  generalize tk tT (n + 1) = T
  intro hR hl ht hL
  obtain ⟨s', g1, g2⟩ := lcL_sim (vs := [1]) (tg := gName 1) (t := tYes) (ef := (fLc (iEnum (fCons (fVar 1) fNil)) [2, 3] (gTup 2 (gCons (gName 2) (gCons (gName 3) gNil))) tYes (fOp mulF (oV 3) (oE (fCall 1 ff_factorial_of (rO 2 rNil)))))) (fun r : List Int => D.lst (r.map D.int)) (fun r : List Int => D.lst (r.map D.int)) labO (s0 := [some (.im (.int (n : Nat))), none, none, none]) T R [some (.im (.int (n : Nat))), none, none, none] [] rfl (by simp; omega) (fun r hr y hy => by
    refine ⟨[some (.im (.int (n : Nat))), some (.im (.lst (r.map D.int))), none, none], [some (.im (.int (n : Nat))), some (.im (.lst (r.map D.int))), none, none], [some (.im (.int (n : Nat))), some (.im (.lst (r.map D.int))), none, none], rfl, rfl, ?_, rfl⟩
    obtain ⟨s2, k1, k2⟩ := lcL_sim (vs := [2, 3]) (tg := gTup 2 (gCons (gName 2) (gCons (gName 3) gNil))) (t := tYes) (ef := (fOp mulF (oV 3) (oE (fCall 1 ff_factorial_of (rO 2 rNil))))) (fun p : Nat × Int => D.tup [.int (p.1 : Nat), .int p.2]) D.int _ (s0 := [some (.im (.int (n : Nat))), some (.im (.lst (r.map D.int))), none, none]) (r.mapIdx fun i x => (i, x)) y [some (.im (.int (n : Nat))), some (.im (.lst (r.map D.int))), none, none] [] rfl (by have := hl r hr; simp; omega) (fun p hp z hz => by
      by_cases hc : p.1 ≤ 5 ∧ mulSm p.2 (facI p.1) = true
      · rw [if_pos hc] at hz
        cases hz
        have hf := fac_at hc.1
        refine ⟨_, _, [some (.im (.int (n : Nat))), some (.im (.lst (r.map D.int))), some (.im (.int (p.1 : Nat))), some (.im (.int p.2))], rfl, rfl, ?_, rfl⟩
        simp [hf, hc.2]
      · rw [if_neg hc] at hz; cases hz) hy
    rw [← enum_ints] at k1
    exact fLc_eq (by simp [late]) (by simp) k1 (by rw [k2]; rfl)) hR
  have := fLc_eq (it := iSeq (fCall 1 ff_table (rO 0 rNil))) (s := [some (.im (.int (n : Nat))), none, none, none]) (by simp [late, ht]) (by simp) g1 (by rw [g2]; rfl)
  unfold rwD
  simp [-fLc, ff_labelled, fDef_eq, fb_labelled, late, this]
end Once

/-! FA47f: the law's choices. -/
namespace Once
open PySem PySem.Spec L2 OD F
abbrev agD (ages : List Nat) : D := .tup (ages.map fun (a : Nat) => D.int (a : Int))
def chs : Nat → Nat → Nat → Option (List (List Nat))
  | 0, _, _ => none
  | j + 1, least, limit => foldO (fun (i : Nat) acc => (chs j (least + i + 1) limit).bind fun ms => foldO (fun (more : List Nat) (acc : List (List Nat)) => if acc.length < 1000 ∧ more.length < 1000 then some (acc ++ [(least + i) :: more]) else none) ms acc) (List.range (limit - least)) [[]]
theorem chs_sim : ∀ (j least limit : Nat) (r : List (List Nat)), chs j least limit = some r → least ≤ 1000 → limit ≤ 1000 → fRec 2 3 fb_law_choices j [.im (.int (least : Nat)), .im (.int (limit : Nat))] = .ok (.im (.lst (r.map agD))) [.im (.int (least : Nat)), .im (.int (limit : Nat))] := by
  intro j
  induction j with
  | zero => intro _ _ _ h; cases h
  | succ j ih =>
    intro least limit r h hl hm
    unfold chs at h
    obtain ⟨s', e, o3, o4, rfl⟩ := forL_sim (tg := gName 3) (body := fb_law_choices_2 (fRec 2 3 fb_law_choices j)) (fun (i : Nat) => D.int ((least : Int) + (i : Int))) (fun (acc : List (List Nat)) s => ∃ o3 o4, s = [some (.im (.int (least : Nat))), some (.im (.int (limit : Nat))), some (.lst (acc.map agD)), o3, o4]) _ (List.range (limit - least)) [[]] r [some (.im (.int (least : Nat))), some (.im (.int (limit : Nat))), some (.lst [agD []]), none, none] (fun i hi a b s hr hs => by
      obtain ⟨o3, o4, rfl⟩ := hr
      have hi' : i < limit - least := List.mem_range.mp hi
      obtain ⟨ms, h1, h2⟩ := bind_some hs
      have e1 := ih (least + i + 1) limit ms h1 (by omega) hm
      obtain ⟨s2, e2, o4', rfl⟩ := forL_sim (tg := gName 4) (body := fb_law_choices_1 (fRec 2 3 fb_law_choices j)) agD (fun (acc : List (List Nat)) s => ∃ o4, s = [some (.im (.int (least : Nat))), some (.im (.int (limit : Nat))), some (.lst (acc.map agD)), some (.im (.int ((least : Int) + (i : Int)))), o4]) _ ms a b [some (.im (.int (least : Nat))), some (.im (.int (limit : Nat))), some (.lst (a.map agD)), some (.im (.int ((least : Int) + (i : Int)))), o4] (fun more hmore a b s hr hs => by
        obtain ⟨o4, rfl⟩ := hr
        by_cases hc : a.length < 1000 ∧ more.length < 1000
        · rw [if_pos hc] at hs
          cases hs
          have z1 : a.length < 16777216 := by omega
          have z2 : 1 + more.length ≤ 16777216 := by omega
          have z3 : more.length + 1 ≤ 16777216 := by omega
          exact ⟨_, [some (.im (.int (least : Nat))), some (.im (.int (limit : Nat))), some (.lst ((a ++ [(least + i) :: more]).map agD)), some (.im (.int ((least : Int) + (i : Int)))), some (.im (agD more))], rfl, by simp [fb_law_choices_1, late, z1, z2, z3], _, rfl⟩
        · rw [if_neg hc] at hs; cases hs) ⟨_, rfl⟩ h2
      have e1' : fRec 2 3 fb_law_choices j [.im (.int ((least : Int) + (i : Int) + 1)), .im (.int (limit : Nat))] = .ok (.im (.lst (ms.map agD))) [.im (.int ((least : Int) + (i : Int) + 1)), .im (.int (limit : Nat))] := by
        have : ((least + i + 1 : Nat) : Int) = (least : Int) + (i : Int) + 1 := by omega
        rw [← this]
        exact e1
      refine ⟨_, [some (.im (.int (least : Nat))), some (.im (.int (limit : Nat))), some (.lst (b.map agD)), some (.im (.int ((least : Int) + (i : Int)))), o4'], rfl, ?_, _, _, rfl⟩
      simp [fb_law_choices_2, late, e1', e2]) ⟨_, _, rfl⟩ h
    have z1 : (limit : Int) < 4611686018427387904 := by omega
    have z2 : (least : Int) < 4611686018427387904 := by omega
    have hn : ((limit : Int) - (least : Int)).toNat = limit - least := by omega
    rw [← rg_map'] at e
    have fr : fRec 2 3 fb_law_choices (j + 1) = fDef 2 3 (fb_law_choices (fRec 2 3 fb_law_choices j)) := rfl
    rw [fr]
    have z3 : (-4611686018427387904 : Int) ≤ least := by omega
    have z4 : (-4611686018427387904 : Int) ≤ limit := by omega
    rw [show agD [] = D.tup [] from rfl] at e
    simp [-rgL, fDef_eq, fb_law_choices, late, z1, z2, z3, z4, hn, e]
end Once

/-! FA47g: all programs, as the law lists them. -/
namespace Once
open PySem PySem.Spec L2 OD F
abbrev ntD (ns : List (List Nat)) : D := .tup (ns.map fun n => D.str (mkS n))
abbrev pwsD (ws : List Pw) : D := .tup (ws.map pw)
theorem scals_strs (us : List (List Nat)) : scals (us.map fun n => D.str (mkS n)) = some (us.map fun n => V.str (mkS n)) := by
  induction us with
  | nil => rfl
  | cons u r ih => simp [scals, OD.scal, ih]
theorem in_nmt (n : List Nat) (us : List (List Nat)) : inW (.str (mkS n)) (.tup (us.map fun n => D.str (mkS n))) = some (decide (n ∈ us)) := by
  show (match OD.scal (.str (mkS n)), scals (us.map fun n => D.str (mkS n)) with | some v, some vs => some (inV v vs) | _, _ => none) = _
  rw [scals_strs]
  show some (inV (.str (mkS n)) _) = _
  congr 1
  induction us with
  | nil => simp [inV]
  | cons u r ih =>
    have e : eqV (V.str (mkS u)) (V.str (mkS n)) = decide (n = u) := by
      show (mkS u == mkS n) = _
      by_cases h : n = u
      · subst h; simp
      · have : ¬ mkS u = mkS n := fun z => h (mkS_inj.mp z).symm
        simp [h, this]
    simp [inV] at ih ⊢
    rw [ih, e]
def al0 (g : Nat) (ns : List (List Nat)) : List (List Pw) := match g, ns with
  | 0, [n] => [[.us n]]
  | _, _ => []
def alT (l r : List Pw) (acc : List (List Pw)) : Option (List (List Pw)) := if acc.length < 100000 ∧ l.length < 900 ∧ r.length < 900 then some (acc ++ [.gv :: (l ++ r)]) else none
def al4 (rec : List (List Nat) → Nat → List Nat → Option (List (List Pw))) (ns : List (List Nat)) (g : Nat) (path : List Nat) (first : Nat) (ages : List Nat) (acc : List (List Pw)) : Option (List (List Pw)) :=
  if (ages.length : Int) ≤ (first : Int) + 1 ∧ (ns.length : Int) - (ages.length : Int) ≤ (g : Int) - (first : Int) then
    (mapO (fun (a : Nat) => atI ns (a : Int)) ages).bind fun one => (rec (ns.filter fun n => !decide (n ∈ one)) (g - 1 - first) (path ++ [114])).bind fun rs => (rec one first (path ++ [108])).bind fun ls =>
      if ages.length < 900 then foldO (fun l acc => foldO (fun r acc => alT l r acc) rs acc) ls acc else none
  else some acc
def alO : Nat → List (List Nat) → Nat → List Nat → Option (List (List Pw))
  | 0, _, _, _ => none
  | j + 1, ns, g, path =>
    if ns.length < 900 ∧ g < 900 ∧ path.length < 900 then
    (if ns.length ≤ g then (alO j (ns ++ [path ++ [110]]) g (path ++ [116])).bind fun bs => foldO (fun (b : List Pw) (acc : List (List Pw)) => if acc.length < 100000 ∧ b.length < 900 then some (acc ++ [.tk (path ++ [110]) :: b]) else none) bs (al0 g ns) else some (al0 g ns)).bind fun f1 =>
    foldO (fun (first : Nat) acc => (chs 100 0 ns.length).bind fun cs => foldO (al4 (alO j) ns g path first) cs acc) (List.range g) f1
    else none
def AllOk (ff : FF) (rec : List (List Nat) → Nat → List Nat → Option (List (List Pw))) : Prop := ∀ (ns : List (List Nat)) (g : Nat) (path : List Nat) (r : List (List Pw)), rec ns g path = some r →
  ff [.im (ntD ns), .im (.int (g : Nat)), .im (.str (mkS path))] = .ok (.im (.lst (r.map pwsD))) [.im (ntD ns), .im (.int (g : Nat)), .im (.str (mkS path))]
section
variable {ff : FF} {ns : List (List Nat)} {g : Nat} {path : List Nat} {o5 : Option Sv}
abbrev stA (ns : List (List Nat)) (g : Nat) (path : List Nat) (o5 : Option Sv) (acc : List (List Pw)) (o4 o6 o7 o8 o9 o10 o11 o12 : Option Sv) : Sl :=
  [some (.im (ntD ns)), some (.im (.int (g : Nat))), some (.im (.str (mkS path))), some (.lst (acc.map pwsD)), o4, o5, o6, o7, o8, o9, o10, o11, o12, none]
theorem all_right {l r : List Pw} {a b : List (List Pw)} {o4 o6 o7 o8 o9 o10 : Option Sv} (h : alT l r a = some b) : fb_law_all_2 ff (stA ns g path o5 a o4 o6 o7 o8 o9 o10 (some (.im (pwsD l))) (some (.im (pwsD r)))) = .nx (stA ns g path o5 b o4 o6 o7 o8 o9 o10 (some (.im (pwsD l))) (some (.im (pwsD r)))) := by
  unfold alT at h
  by_cases hc : a.length < 100000 ∧ l.length < 900 ∧ r.length < 900
  · rw [if_pos hc] at h
    cases h
    obtain ⟨z1, z2, z3⟩ := hc
    have y1 : a.length < 16777216 := by omega
    have y2 : 1 + l.length ≤ 16777216 := by omega
    have y3 : l.length + 1 ≤ 16777216 := by omega
    have y4 : l.length + 1 + r.length ≤ 16777216 := by omega
    have y5 : 1 + l.length + r.length ≤ 16777216 := by omega
    have y6 : l.length + r.length + 1 ≤ 16777216 := by omega
    unfold stA pwsD
    simp [fb_law_all_2, late, y1, y2, y3, y4, y5, y6, pw, s_at]
  · rw [if_neg hc] at h; cases h
theorem all_left {l : List Pw} {rs : List (List Pw)} {a b : List (List Pw)} {o4 o6 o7 o8 o9 o12 : Option Sv} (h : foldO (fun r acc => alT l r acc) rs a = some b) : ∃ o12', fb_law_all_3 ff (stA ns g path o5 a o4 o6 o7 o8 o9 (some (.im (.lst (rs.map pwsD)))) (some (.im (pwsD l))) o12) = .nx (stA ns g path o5 b o4 o6 o7 o8 o9 (some (.im (.lst (rs.map pwsD)))) (some (.im (pwsD l))) o12') := by
  obtain ⟨s', e, o12', rfl⟩ := forL_sim (tg := gName 12) (body := fb_law_all_2 ff) pwsD (fun (acc : List (List Pw)) s => ∃ o12, s = stA ns g path o5 acc o4 o6 o7 o8 o9 (some (.im (.lst (rs.map pwsD)))) (some (.im (pwsD l))) o12) _ rs a b _ (fun r hr a b s hR hs => by
    obtain ⟨o12, rfl⟩ := hR
    exact ⟨_, _, rfl, all_right hs, _, rfl⟩) ⟨o12, rfl⟩ h
  refine ⟨o12', ?_⟩
  unfold fb_law_all_3
  simp only [fFor]
  have hi : iSeq (fVar 10) (stA ns g path o5 a o4 o6 o7 o8 o9 (some (.im (.lst (rs.map pwsD)))) (some (.im (pwsD l))) o12) = .ok (rs.map pwsD) (stA ns g path o5 a o4 o6 o7 o8 o9 (some (.im (.lst (rs.map pwsD)))) (some (.im (pwsD l))) o12) := rfl
  rw [hi, ok_thn]
  exact e
end
end Once

/-! FA47h: all programs, as the law lists them: the turns. -/
namespace Once
open PySem PySem.Spec L2 OD F
section
variable {ff : FF} {ns : List (List Nat)} {g : Nat} {path : List Nat} {o5 : Option Sv}
theorem al4_take {rec : List (List Nat) → Nat → List Nat → Option (List (List Pw))} (hrec : AllOk ff rec) (h5 : o5 = none ∨ ∃ d, o5 = some (.im d)) {first : Nat} {ages : List Nat} {a b : List (List Pw)} {o6 o8 o9 o10 o11 o12 : Option Sv} (hf : first < g) (hn : ns.length < 900) (hp : path.length < 900) (h : al4 rec ns g path first ages a = some b) :
    ∃ o8' o9' o10' o11' o12', fb_law_all_4 ff (stA ns g path o5 a (some (.im (.int (first : Nat)))) o6 (some (.im (agD ages))) o8 o9 o10 o11 o12) = .nx (stA ns g path o5 b (some (.im (.int (first : Nat)))) o6 (some (.im (agD ages))) o8' o9' o10' o11' o12') := by
  unfold al4 at h
  by_cases hc : (ages.length : Int) ≤ (first : Int) + 1 ∧ (ns.length : Int) - (ages.length : Int) ≤ (g : Int) - (first : Int)
  case neg =>
    rw [if_neg hc] at h
    cases h
    refine ⟨o8, o9, o10, o11, o12, ?_⟩
    unfold stA
    by_cases h1 : (ages.length : Int) ≤ (first : Int) + 1
    · have h2 : ¬ (ns.length : Int) - (ages.length : Int) ≤ (g : Int) - (first : Int) := fun z => hc ⟨h1, z⟩
      simp [fb_law_all_4, late, h1, h2]
    · simp [fb_law_all_4, late, h1]
  rw [if_pos hc] at h
  obtain ⟨c1, c2⟩ := hc
  obtain ⟨one, h1, h⟩ := bind_some h
  obtain ⟨rs, h2, h⟩ := bind_some h
  obtain ⟨ls, h3, h⟩ := bind_some h
  by_cases hl : ages.length < 900
  case neg => rw [if_neg hl] at h; cases h
  rw [if_pos hl] at h
  have hl1 : one.length ≤ 900 := by
    have key : ∀ (as : List Nat) (ys : List (List Nat)), mapO (fun (a : Nat) => atI ns (a : Int)) as = some ys → ys.length = as.length := by
      intro as
      induction as with
      | nil => intro ys h; cases h; rfl
      | cons x as ih =>
        intro ys h
        obtain ⟨y, _, h⟩ := bind_some h
        obtain ⟨zs, g2, rfl⟩ := Option.map_eq_some_iff.mp h
        rw [List.length_cons, List.length_cons, ih zs g2]
    rw [key ages one h1]; omega
  obtain ⟨ot, hot⟩ : ∃ ot, ot = ns.filter fun n => !decide (n ∈ one) := ⟨_, rfl⟩
  have hlo : ot.length ≤ 900 := by
    rw [hot]
    exact Nat.le_trans (List.length_filter_le _ _) (by omega)
  rw [← hot] at h2
  have e2 := hrec _ _ _ _ h2
  have e3 := hrec _ _ _ _ h3
  rw [show ((g - 1 - first : Nat) : Int) = (g : Int) - 1 - (first : Int) by omega] at e2
  have f1 : fLc (iSeq (fVar 7)) [13] (gName 13) tYes (fOp ixF (oV 0) (oV 13)) (stA ns g path o5 a (some (.im (.int (first : Nat)))) o6 (some (.im (agD ages))) o8 o9 o10 o11 o12) = .ok (.im (nsD one)) (stA ns g path o5 a (some (.im (.int (first : Nat)))) o6 (some (.im (agD ages))) o8 o9 o10 o11 o12) := by
    obtain ⟨s', g1, g2⟩ := lcL_sim (vs := [13]) (tg := gName 13) (t := tYes) (ef := fOp ixF (oV 0) (oV 13)) (fun (x : Nat) => D.int (x : Int)) (fun n : List Nat => D.str (mkS n)) (fun (x : Nat) => atI ns (x : Int)) (s0 := stA ns g path o5 a (some (.im (.int (first : Nat)))) o6 (some (.im (agD ages))) o8 o9 o10 o11 o12) ages one (stA ns g path o5 a (some (.im (.int (first : Nat)))) o6 (some (.im (agD ages))) o8 o9 o10 o11 o12) [] rfl (by simp; omega) (fun x hx y hy => by
      have a1 : atI (ns.map fun n => D.str (mkS n)) (x : Int) = some (.str (mkS y)) := by rw [atI_map, hy]; rfl
      refine ⟨_, _, [some (.im (ntD ns)), some (.im (.int (g : Nat))), some (.im (.str (mkS path))), some (.lst (a.map pwsD)), some (.im (.int (first : Nat))), o5, o6, some (.im (agD ages)), o8, o9, o10, o11, o12, some (.im (.int (x : Nat)))], rfl, rfl, ?_, rfl⟩
      unfold stA
      simp [a1]) h1
    exact fLc_eq (by unfold stA agD; simp) (by unfold stA; simp) g1 (by rw [g2]; rfl)
  have f2 : fLc (iSeq (fVar 0)) [5] (gName 5) (fTest (fOp (inF true) (oV 5) (oV 8))) (fVar 5) (stA ns g path o5 a (some (.im (.int (first : Nat)))) o6 (some (.im (agD ages))) (some (.im (ntD one))) o9 o10 o11 o12) = .ok (.im (nsD ot)) (stA ns g path o5 a (some (.im (.int (first : Nat)))) o6 (some (.im (agD ages))) (some (.im (ntD one))) o9 o10 o11 o12) := by
    obtain ⟨s', g1, g2⟩ := lcP_sim (vs := [5]) (tg := gName 5) (t := fTest (fOp (inF true) (oV 5) (oV 8))) (ef := fVar 5) (fun n : List Nat => D.str (mkS n)) (fun n : List Nat => D.str (mkS n)) (fun n => !decide (n ∈ one)) id (s0 := stA ns g path none a (some (.im (.int (first : Nat)))) o6 (some (.im (agD ages))) (some (.im (ntD one))) o9 o10 o11 o12) ns (stA ns g path o5 a (some (.im (.int (first : Nat)))) o6 (some (.im (agD ages))) (some (.im (ntD one))) o9 o10 o11 o12) [] rfl (by simp; omega) (fun n hn => by
      refine ⟨_, stA ns g path (some (.im (.str (mkS n)))) a (some (.im (.int (first : Nat)))) o6 (some (.im (agD ages))) (some (.im (ntD one))) o9 o10 o11 o12, rfl, ?_, rfl, fun _ => ⟨_, rfl, rfl⟩⟩
      unfold stA
      simp [in_nmt])
    rw [List.map_id, ← hot] at g1
    exact fLc_eq (by unfold stA ntD; simp) (by unfold stA; rcases h5 with rfl | ⟨d, rfl⟩ <;> simp) g1 (by rw [g2]; rfl)
  -- left by left
  obtain ⟨s', e, o11', o12', rfl⟩ := forL_sim (tg := gName 11) (body := fb_law_all_3 ff) pwsD (fun (acc : List (List Pw)) s => ∃ o11 o12, s = stA ns g path o5 acc (some (.im (.int (first : Nat)))) o6 (some (.im (agD ages))) (some (.im (ntD one))) (some (.im (ntD ot))) (some (.im (.lst (rs.map pwsD)))) o11 o12) _ ls a b (stA ns g path o5 a (some (.im (.int (first : Nat)))) o6 (some (.im (agD ages))) (some (.im (ntD one))) (some (.im (ntD ot))) (some (.im (.lst (rs.map pwsD)))) o11 o12) (fun l hl a b s hR hs => by
    obtain ⟨o11, o12, rfl⟩ := hR
    obtain ⟨o12', e⟩ := all_left (ff := ff) (ns := ns) (g := g) (path := path) (o5 := o5) (o4 := some (.im (.int (first : Nat)))) (o6 := o6) (o7 := some (.im (agD ages))) (o8 := some (.im (ntD one))) (o9 := some (.im (ntD ot))) (o12 := o12) hs
    exact ⟨_, _, rfl, e, _, _, rfl⟩) ⟨_, _, rfl⟩ h
  refine ⟨some (.im (ntD one)), some (.im (ntD ot)), some (.im (.lst (rs.map pwsD))), o11', o12', ?_⟩
  have y1 : path.length + 1 ≤ 16777216 := by omega
  have y2 : one.length ≤ 16777216 := by omega
  have y3 : ot.length ≤ 16777216 := by omega
  have s1 : (Str.ofString "r" : Str) = mkS [114] := by decide +kernel
  have s2 : (Str.ofString "l" : Str) = mkS [108] := by decide +kernel
  unfold stA ntD nsD agD at f1 f2
  unfold stA ntD agD at e
  unfold ntD at e2 e3
  unfold stA ntD agD
  simp [-fLc, fb_law_all_4, late, c1, c2, f1, f2, e2, e3, e, y1, y2, y3, s1, s2]
theorem all_first {rec : List (List Nat) → Nat → List Nat → Option (List (List Pw))} (hrec : AllOk ff rec) (h5 : o5 = none ∨ ∃ d, o5 = some (.im d)) {first : Nat} {a b : List (List Pw)} {o6 o7 o8 o9 o10 o11 o12 : Option Sv} (hf : first < g) (hn : ns.length < 900) (hp : path.length < 900)
    (h : ((chs 100 0 ns.length).bind fun cs => foldO (al4 rec ns g path first) cs a) = some b) :
    ∃ o7' o8' o9' o10' o11' o12', fb_law_all_5 ff (stA ns g path o5 a (some (.im (.int (first : Nat)))) o6 o7 o8 o9 o10 o11 o12) = .nx (stA ns g path o5 b (some (.im (.int (first : Nat)))) o6 o7' o8' o9' o10' o11' o12') := by
  obtain ⟨cs, h1, h⟩ := bind_some h
  have e1 := chs_sim 100 0 ns.length cs h1 (by omega) (by omega)
  have e1' : ff_law_choices [.im (.int 0), .im (.int (ns.length : Nat))] = .ok (.im (.lst (cs.map agD))) [.im (.int 0), .im (.int (ns.length : Nat))] := e1
  obtain ⟨s', e, o7', o8', o9', o10', o11', o12', rfl⟩ := forL_sim (tg := gName 7) (body := fb_law_all_4 ff) agD (fun (acc : List (List Pw)) s => ∃ o7 o8 o9 o10 o11 o12, s = stA ns g path o5 acc (some (.im (.int (first : Nat)))) o6 o7 o8 o9 o10 o11 o12) _ cs a b (stA ns g path o5 a (some (.im (.int (first : Nat)))) o6 o7 o8 o9 o10 o11 o12) (fun ages hl a b s hR hs => by
    obtain ⟨o7, o8, o9, o10, o11, o12, rfl⟩ := hR
    obtain ⟨o8', o9', o10', o11', o12', e⟩ := al4_take (o6 := o6) (o8 := o8) (o9 := o9) (o10 := o10) (o11 := o11) (o12 := o12) hrec h5 hf hn hp hs
    exact ⟨_, _, rfl, e, _, _, _, _, _, _, rfl⟩) ⟨_, _, _, _, _, _, rfl⟩ h
  refine ⟨o7', o8', o9', o10', o11', o12', ?_⟩
  unfold stA ntD at e ⊢
  simp [fb_law_all_5, late, e1', e]
theorem all_zero (ns : List (List Nat)) (g : Nat) (path : List Nat) : (fIfS (fAnd (fTest (fOp (eqF false) (oV 1) (oE (fC (.int 0))))) (fTest (fOp (eqF false) (oE (fCB lenF (lCons (oV 0) lNil))) (oE (fC (.int 1)))))) (fDrop (fApp 3 (fTup (fCons (fOp ixF (oV 0) (oE (fC (.int 0)))) fNil)))) fNext) (stA ns g path none [] none none none none none none none none) = .nx (stA ns g path none (al0 g ns) none none none none none none none none) := by
  unfold stA ntD
  match g, ns with
  | 0, [] => simp [late, al0]
  | 0, [n] => simp [late, al0, pw, atI, ixN]
  | 0, n :: m :: t =>
    have : ¬ ((t.length : Int) + 1 + 1 = 1) := by omega
    simp [late, al0, this]
  | g + 1, ns =>
    have : ¬ ((g : Int) + 1 = 0) := by omega
    simp [late, al0, this]
theorem fSeq_nx2 {a b : FS} {s s1 : Sl} (h : a s = .nx s1) : fSeq a b s = b s1 := by
  show (a s).then b = _
  rw [h]
  rfl
theorem AllOk.step {rec : List (List Nat) → Nat → List Nat → Option (List (List Pw))} (hrec : AllOk ff rec) {j : Nat} (hr : fRec 3 11 fb_law_all j = ff) (hj : alO j = rec) : AllOk (fRec 3 11 fb_law_all (j + 1)) (alO (j + 1)) := by
  intro ns g path r h
  unfold alO at h
  by_cases hb : ns.length < 900 ∧ g < 900 ∧ path.length < 900
  case neg => rw [if_neg hb] at h; cases h
  rw [if_pos hb, hj] at h
  obtain ⟨hn, hg, hp⟩ := hb
  obtain ⟨f1, h1, h⟩ := bind_some h
  have fr : fRec 3 11 fb_law_all (j + 1) = fDef 3 11 (fb_law_all ff) := by rw [← hr]; rfl
  -- what stands there ahead of the loop
  have main : ∀ (o5 o6 : Option Sv), (o5 = none ∨ ∃ d, o5 = some (.im d)) → ∃ o4 o7 o8 o9 o10 o11 o12, forL (gName 4) (fb_law_all_5 ff) (rgL 0 1 g) (stA ns g path o5 f1 none o6 none none none none none none) = .nx (stA ns g path o5 r o4 o6 o7 o8 o9 o10 o11 o12) := by
    intro o5 o6 h5
    obtain ⟨s', e, o4, o7, o8, o9, o10, o11, o12, rfl⟩ := forL_sim (tg := gName 4) (body := fb_law_all_5 ff) (fun (i : Nat) => D.int (i : Int)) (fun (acc : List (List Pw)) s => ∃ o4 o7 o8 o9 o10 o11 o12, s = stA ns g path o5 acc o4 o6 o7 o8 o9 o10 o11 o12) _ (List.range g) f1 r (stA ns g path o5 f1 none o6 none none none none none none) (fun first hf a b s hR hs => by
      obtain ⟨o4, o7, o8, o9, o10, o11, o12, rfl⟩ := hR
      obtain ⟨o7', o8', o9', o10', o11', o12', e⟩ := all_first (o6 := o6) (o7 := o7) (o8 := o8) (o9 := o9) (o10 := o10) (o11 := o11) (o12 := o12) hrec h5 (List.mem_range.mp hf) hn hp hs
      exact ⟨_, _, rfl, e, _, _, _, _, _, _, _, rfl⟩) ⟨_, _, _, _, _, _, _, rfl⟩ h
    rw [← rg_map] at e
    exact ⟨_, _, _, _, _, _, _, e⟩
  have s1 : (Str.ofString "n" : Str) = mkS [110] := by decide +kernel
  have s2 : (Str.ofString "t" : Str) = mkS [116] := by decide +kernel
  have y1 : path.length + 1 ≤ 16777216 := by omega
  have y2 : ns.length + 1 ≤ 16777216 := by omega
  have z1 : (g : Int) < 4611686018427387904 := by omega
  by_cases hc : ns.length ≤ g
  · rw [if_pos hc] at h1
    obtain ⟨bs, h2, h3⟩ := bind_some h1
    have e2 := hrec _ _ _ _ h2
    obtain ⟨s', e3, o6', rfl⟩ := forL_sim (tg := gName 6) (body := fb_law_all_1 ff) pwsD (fun (acc : List (List Pw)) s => ∃ o6, s = stA ns g path (some (.im (.str (mkS (path ++ [110]))))) acc none o6 none none none none none none) _ bs (al0 g ns) f1 (stA ns g path (some (.im (.str (mkS (path ++ [110]))))) (al0 g ns) none none none none none none none none) (fun w hw a b s hR hs => by
      obtain ⟨o6, rfl⟩ := hR
      by_cases hc : a.length < 100000 ∧ w.length < 900
      · rw [if_pos hc] at hs
        cases hs
        have x1 : a.length < 16777216 := by omega
        have x2 : 1 + w.length ≤ 16777216 := by omega
        have x3 : w.length + 1 ≤ 16777216 := by omega
        have x4 : 1 + (path.length + 1) ≤ 16777216 := by omega
        have x5 : path.length + 1 + 1 ≤ 16777216 := by omega
        refine ⟨_, stA ns g path (some (.im (.str (mkS (path ++ [110]))))) (a ++ [.tk (path ++ [110]) :: w]) none (some (.im (pwsD w))) none none none none none none, rfl, ?_, _, rfl⟩
        unfold stA ntD pwsD
        simp [fb_law_all_1, late, x1, x2, x3, x4, x5, pw, s_sl]
      · rw [if_neg hc] at hs; cases hs) ⟨_, rfl⟩ h3
    obtain ⟨o4, o7, o8, o9, o10, o11, o12, e4⟩ := main (some (.im (.str (mkS (path ++ [110]))))) o6' (.inr ⟨_, rfl⟩)
    have hc' : (ns.length : Int) ≤ g := by omega
    rw [fr, fDef_eq (by rfl)]
    have e2' : ff [.im (.tup ((ns.map fun n => D.str (mkS n)) ++ [.str (mkS (path ++ [110]))])), .im (.int (g : Nat)), .im (.str (mkS (path ++ [116])))] = .ok (.im (.lst (bs.map pwsD))) [.im (.tup ((ns.map fun n => D.str (mkS n)) ++ [.str (mkS (path ++ [110]))])), .im (.int (g : Nat)), .im (.str (mkS (path ++ [116])))] := by
      unfold ntD at e2
      rw [List.map_append] at e2
      exact e2
    have q1 : (fIfS (fTest (fOp leF (oE (fCB lenF (lCons (oV 0) lNil))) (oV 1))) (fSeq (fAsg (fOp addF (oV 2) (oE (fC (.str "n")))) 5)
        (fFor (iSeq (fCall 3 ff (rE (fOp addF (oV 0) (oE (fTup (fCons (fVar 5) fNil)))) (rO 1 (rE (fOp addF (oV 2) (oE (fC (.str "t")))) rNil))))) (gName 6) (fb_law_all_1 ff))) fNext) (stA ns g path none (al0 g ns) none none none none none none none none) = .nx (stA ns g path (some (.im (.str (mkS (path ++ [110]))))) f1 none o6' none none none none none none) := by
      unfold stA ntD at e3 ⊢
      simp [late, hc', y1, y2, s1, s2, e2', e3]
    have q2 : (fFor (iRg rg1F (fCons (fVar 1) fNil)) (gName 4) (fb_law_all_5 ff)) (stA ns g path (some (.im (.str (mkS (path ++ [110]))))) f1 none o6' none none none none none none) = .nx (stA ns g path (some (.im (.str (mkS (path ++ [110]))))) r o4 o6' o7 o8 o9 o10 o11 o12) := by
      unfold stA ntD at e4 ⊢
      simp [-rgL, late, z1, e4]
    unfold fb_law_all
    rw [fSeq_nx2 (s1 := stA ns g path none [] none none none none none none none none) (by simp), fSeq_nx2 (all_zero ns g path), fSeq_nx2 q1, fSeq_nx2 q2]
    unfold stA
    simp [late]
  · rw [if_neg hc] at h1
    cases h1
    obtain ⟨o4, o7, o8, o9, o10, o11, o12, e4⟩ := main none none (.inl rfl)
    have hc' : ¬ (ns.length : Int) ≤ g := by omega
    rw [fr, fDef_eq (by rfl)]
    have q1 : (fIfS (fTest (fOp leF (oE (fCB lenF (lCons (oV 0) lNil))) (oV 1))) (fSeq (fAsg (fOp addF (oV 2) (oE (fC (.str "n")))) 5)
        (fFor (iSeq (fCall 3 ff (rE (fOp addF (oV 0) (oE (fTup (fCons (fVar 5) fNil)))) (rO 1 (rE (fOp addF (oV 2) (oE (fC (.str "t")))) rNil))))) (gName 6) (fb_law_all_1 ff))) fNext) (stA ns g path none (al0 g ns) none none none none none none none none) = .nx (stA ns g path none (al0 g ns) none none none none none none none none) := by
      unfold stA ntD
      simp [late, hc']
    have q2 : (fFor (iRg rg1F (fCons (fVar 1) fNil)) (gName 4) (fb_law_all_5 ff)) (stA ns g path none (al0 g ns) none none none none none none none none) = .nx (stA ns g path none r o4 none o7 o8 o9 o10 o11 o12) := by
      unfold stA ntD at e4 ⊢
      simp [-rgL, late, z1, e4]
    unfold fb_law_all
    rw [fSeq_nx2 (s1 := stA ns g path none [] none none none none none none none none) (by simp), fSeq_nx2 (all_zero ns g path), fSeq_nx2 q1, fSeq_nx2 q2]
    unfold stA
    simp [late]
theorem AllOk.all : ∀ j, AllOk (fRec 3 11 fb_law_all j) (alO j) := by
  intro j
  induction j with
  | zero => intro _ _ _ _ h; cases h
  | succ j ih => exact AllOk.step ih rfl rfl
end
end Once

/-! FA47i: standard names, as the law gives them. -/
namespace Once
open PySem PySem.Spec L2 OD F
abbrev asD (kvs : List (List Nat × List Nat)) : List (Key × D) := kvs.map fun p => (Sum.inr (mkS p.1), D.str (mkS p.2))
def lkA (kvs : List (List Nat × List Nat)) (n : List Nat) : Option (List Nat) := (kvs.find? fun p => decide (p.1 = n)).map (·.2)
def putA (kvs : List (List Nat × List Nat)) (n v : List Nat) : List (List Nat × List Nat) := if (kvs.any fun p => decide (p.1 = n)) = true then kvs.map fun p => if p.1 = n then (p.1, v) else p else kvs ++ [(n, v)]
theorem key_inj (a b : List Nat) : ((Sum.inr (mkS a) : Key) = Sum.inr (mkS b)) = (a = b) := by
  rw [Sum.inr.injEq, mkS_inj]
theorem asD_put (kvs : List (List Nat × List Nat)) (n v : List Nat) : putD (asD kvs) (Sum.inr (mkS n)) (.str (mkS v)) = asD (putA kvs n v) := by
  unfold putD putA
  have h1 : ((asD kvs).any fun kv => decide (kv.1 = Sum.inr (mkS n))) = kvs.any fun p => decide (p.1 = n) := by
    unfold asD
    rw [List.any_map]
    congr 1
    funext p
    simp only [Function.comp, key_inj]
  rw [h1]
  by_cases h : (kvs.any fun p => decide (p.1 = n)) = true
  · rw [if_pos h, if_pos h]
    unfold asD
    rw [List.map_map, List.map_map]
    refine List.map_congr_left fun p _ => ?_
    simp only [Function.comp, key_inj]
    by_cases e : p.1 = n
    · rw [if_pos e, if_pos e]
    · rw [if_neg e, if_neg e]
  · rw [if_neg h, if_neg h]
    unfold asD
    simp
theorem asD_look (kvs : List (List Nat × List Nat)) (n : List Nat) : lookD (asD kvs) (Sum.inr (mkS n)) = (lkA kvs n).map fun v => D.str (mkS v) := by
  unfold lookD lkA asD
  rw [List.find?_map]
  have h : ((fun kv : Key × D => decide (kv.1 = Sum.inr (mkS n))) ∘ fun p : List Nat × List Nat => ((Sum.inr (mkS p.1) : Key), D.str (mkS p.2))) = fun p => decide (p.1 = n) := by
    funext p
    simp only [Function.comp, key_inj]
  rw [h]
  cases kvs.find? fun p => decide (p.1 = n) <;> rfl
def okc (n : List Nat) : Bool := decide (1 ≤ n.length) && (decide (n.length ≤ 8) && n.all fun c => decide (97 ≤ c) && decide (c ≤ 122))
def okb : Pw → Bool
  | .gv => true
  | .tk n => okc n
  | .us n => okc n
theorem okc_ok {n : List Nat} (h : okc n = true) : okn n := by
  unfold okc at h
  simp at h
  exact ⟨h.1, h.2.1, h.2.2⟩
theorem okb_ok {w : Pw} (h : okb w = true) : w.ok := by
  cases w with
  | gv => trivial
  | tk n => exact okc_ok h
  | us n => exact okc_ok h
def st1 (w : Pw) (kvs : List (List Nat × List Nat)) : Option (List (List Nat × List Nat)) := if okb w = true ∧ kvs.length < 900 then (match w with | .tk n => some (putA kvs n (letters kvs.length)) | _ => some kvs) else none
def st2 (kvs : List (List Nat × List Nat)) (w : Pw) (acc : List Pw) : Option (List Pw) := if okb w = true ∧ acc.length < 900 then (match w with
  | .gv => some (acc ++ [.gv])
  | .tk n => (lkA kvs n).bind fun v => if v.length < 900 then some (acc ++ [.tk v]) else none
  | .us n => (lkA kvs n).map fun v => acc ++ [.us v]) else none
def stO (ws : List Pw) : Option (List Pw) := (foldO st1 ws []).bind fun kvs => foldO (st2 kvs) ws []
theorem us_47 {n : List Nat} (h : okn n) : n.take 1 ≠ [47] := by
  intro e
  cases n with
  | nil => cases e
  | cons c r =>
    have := h.2.2 c (by simp)
    simp at e
    omega
theorem ne_at {n : List Nat} (h : okn n) : n ≠ [64] := by
  rintro rfl
  have := h.2.2 64 (by simp)
  omega
theorem law_standard_sim {ws r : List Pw} (h : stO ws = some r) : ff_law_standard [.im (pwsD ws)] = .ok (.im (pwsD r)) [.im (pwsD ws)] := by
  obtain ⟨kvs, h1, h2⟩ := bind_some h
  obtain ⟨s1, e1, o2, rfl⟩ := forL_sim (tg := gName 2) (body := fb_law_standard_1) pw (fun (kvs : List (List Nat × List Nat)) s => ∃ o2, s = [some (.im (pwsD ws)), some (.dic (asD kvs)), o2, none]) st1 ws [] kvs [some (.im (pwsD ws)), some (.dic []), none, none] (fun w hw a b s hR hs => by
    obtain ⟨o2, rfl⟩ := hR
    unfold st1 at hs
    by_cases hc : okb w = true ∧ a.length < 900
    case neg => rw [if_neg hc] at hs; cases hs
    rw [if_pos hc] at hs
    obtain ⟨c1, c2⟩ := hc
    have ok := okb_ok c1
    refine ⟨[some (.im (pwsD ws)), some (.dic (asD a)), some (.im (pw w)), none], [some (.im (pwsD ws)), some (.dic (asD b)), some (.im (pw w)), none], rfl, ?_, _, rfl⟩
    cases w with
    | gv =>
      cases hs
      simp [fb_law_standard_1, late, pw, s_sl, cutS_mk, cutL_1, mkS_inj]
    | tk n =>
      cases hs
      have z1 : n.length + 1 ≤ 16777216 := by have := ok.2.1; omega
      have z2 : a.length < 16777216 := by omega
      have e := law_letters_eq (n := a.length) (by omega)
      have p := asD_put a n (letters a.length)
      unfold asD at p ⊢
      simp [fb_law_standard_1, late, pw, s_sl, cutS_mk, cutL_1, cutL_r, mkS_inj, z1, z2, e, p]
    | us n =>
      cases hs
      have z1 : n.length ≤ 16777216 := by have := ok.2.1; omega
      have z2 := us_47 ok
      simp [fb_law_standard_1, late, pw, s_sl, cutS_mk, cutL_1, mkS_inj, z1, z2]) ⟨_, rfl⟩ h1
  obtain ⟨s2, e2, o2', rfl⟩ := forL_sim (tg := gName 2) (body := fb_law_standard_2) pw (fun (acc : List Pw) s => ∃ o2, s = [some (.im (pwsD ws)), some (.dic (asD kvs)), o2, some (.im (pwsD acc))]) (st2 kvs) ws [] r [some (.im (pwsD ws)), some (.dic (asD kvs)), o2, some (.im (pwsD []))] (fun w hw a b s hR hs => by
    obtain ⟨o2, rfl⟩ := hR
    unfold st2 at hs
    by_cases hc : okb w = true ∧ a.length < 900
    case neg => rw [if_neg hc] at hs; cases hs
    rw [if_pos hc] at hs
    obtain ⟨c1, c2⟩ := hc
    have ok := okb_ok c1
    have y1 : a.length + 1 ≤ 16777216 := by omega
    refine ⟨[some (.im (pwsD ws)), some (.dic (asD kvs)), some (.im (pw w)), some (.im (pwsD a))], [some (.im (pwsD ws)), some (.dic (asD kvs)), some (.im (pw w)), some (.im (pwsD b))], rfl, ?_, _, rfl⟩
    cases w with
    | gv =>
      cases hs
      unfold pwsD
      simp [fb_law_standard_2, late, pw, s_at, y1]
    | tk n =>
      obtain ⟨v, g1, hs⟩ := bind_some hs
      by_cases hv : v.length < 900
      case neg => rw [if_neg hv] at hs; cases hs
      rw [if_pos hv] at hs
      cases hs
      have z1 : n.length + 1 ≤ 16777216 := by have := ok.2.1; omega
      have z2 : 1 + v.length ≤ 16777216 := by omega
      have z3 : v.length + 1 ≤ 16777216 := by omega
      have l := asD_look kvs n
      rw [g1] at l
      unfold pwsD
      unfold asD at l ⊢
      simp [fb_law_standard_2, late, pw, s_at, s_sl, cutS_mk, cutL_1, cutL_r, mkS_inj, y1, z1, z2, z3, l]
    | us n =>
      obtain ⟨v, g1, rfl⟩ := Option.map_eq_some_iff.mp hs
      have z1 : n.length ≤ 16777216 := by have := ok.2.1; omega
      have z2 := us_47 ok
      have z3 := ne_at ok
      have l := asD_look kvs n
      rw [g1] at l
      unfold pwsD
      unfold asD at l ⊢
      simp [fb_law_standard_2, late, pw, s_at, s_sl, cutS_mk, cutL_1, cutL_r, mkS_inj, y1, z1, z2, z3, l]) ⟨_, rfl⟩ h2
  rw [show pwsD [] = D.tup [] from rfl] at e2
  unfold pwsD at e1 e2 ⊢
  simp [ff_law_standard, fDef_eq, fb_law_standard, late, e1, e2]
end Once

/-! FA47l: all programs, without counting. -/
namespace Once
open PySem PySem.Spec L2 OD F
def chF (n : Nat) : List (List Nat) := (chs 100 0 n).getD []
def cdF (ns : List (List Nat)) (g first : Nat) (ages : List Nat) : Bool := decide ((ages.length : Int) ≤ (first : Int) + 1) && decide ((ns.length : Int) - (ages.length : Int) ≤ (g : Int) - (first : Int))
def onF (ns : List (List Nat)) (ages : List Nat) : List (List Nat) := ages.map fun a => ns.getD a []
def orF (ns one : List (List Nat)) : List (List Nat) := ns.filter fun n => !decide (n ∈ one)
def alF4 (rec : List (List Nat) → Nat → List Nat → List (List Pw)) (ns : List (List Nat)) (g : Nat) (path : List Nat) (first : Nat) (ages : List Nat) : List (List Pw) :=
  if cdF ns g first ages = true then (rec (onF ns ages) first (path ++ [108])).flatMap fun l => (rec (orF ns (onF ns ages)) (g - 1 - first) (path ++ [114])).map fun r => .gv :: (l ++ r) else []
def alF : Nat → List (List Nat) → Nat → List Nat → List (List Pw)
  | 0, _, _, _ => []
  | j + 1, ns, g, path => al0 g ns ++ ((if ns.length ≤ g then (alF j (ns ++ [path ++ [110]]) g (path ++ [116])).map (.tk (path ++ [110]) :: ·) else []) ++ (List.range g).flatMap fun first => (chF ns.length).flatMap (alF4 (alF j) ns g path first))
def okF : Nat → List (List Nat) → Nat → List Nat → Bool
  | 0, _, _, _ => false
  | j + 1, ns, g, path => (decide (ns.length < 900) && (decide (g < 900) && decide (path.length < 900))) && ((decide ((alF (j + 1) ns g path).length < 100000) && (alF (j + 1) ns g path).all fun w => decide (w.length < 900)) && ((chs 100 0 ns.length).isSome && ((if ns.length ≤ g then okF j (ns ++ [path ++ [110]]) g (path ++ [116]) else true) &&
      (List.range g).all fun first => (chF ns.length).all fun ages => if cdF ns g first ages = true then (ages.all fun a => decide (a < ns.length)) && (decide (ages.length < 900) && (okF j (onF ns ages) first (path ++ [108]) && okF j (orF ns (onF ns ages)) (g - 1 - first) (path ++ [114]))) else true)))
theorem foldO_app {α β : Type} (p : α → Prop) [DecidablePred p] (h : α → β) : ∀ (xs : List α) (acc : List β), (∀ x ∈ xs, p x) → acc.length + xs.length ≤ 100000 → foldO (fun x acc => if acc.length < 100000 ∧ p x then some (acc ++ [h x]) else none) xs acc = some (acc ++ xs.map h) := by
  intro xs
  induction xs with
  | nil => intro acc _ _; simp [foldO]
  | cons x xs ih =>
    intro acc hp hl
    rw [List.length_cons] at hl
    show ((if acc.length < 100000 ∧ p x then some (acc ++ [h x]) else none : Option (List β)).bind (foldO _ xs)) = _
    rw [if_pos ⟨by omega, hp x (by simp)⟩, Option.bind_some, ih _ (fun y hy => hp y (by simp [hy])) (by simp; omega)]
    simp
theorem foldO_flat {α β : Type} (st : α → List β → Option (List β)) (h : α → List β) : ∀ (xs : List α) (acc : List β), (∀ x ∈ xs, ∀ acc : List β, acc.length + (h x).length ≤ 100000 → st x acc = some (acc ++ h x)) → acc.length + (xs.flatMap h).length ≤ 100000 → foldO st xs acc = some (acc ++ xs.flatMap h) := by
  intro xs
  induction xs with
  | nil => intro acc _ _; simp [foldO]
  | cons x xs ih =>
    intro acc hs hl
    rw [List.flatMap_cons, List.length_append] at hl
    show ((st x acc).bind (foldO st xs)) = _
    rw [hs x (by simp) acc (by omega), Option.bind_some, ih _ (fun y hy => hs y (by simp [hy])) (by rw [List.length_append]; omega)]
    simp
theorem mapO_some {α β : Type} {g : α → Option β} {h : α → β} : ∀ (xs : List α), (∀ x ∈ xs, g x = some (h x)) → mapO g xs = some (xs.map h) := by
  intro xs
  induction xs with
  | nil => intro _; rfl
  | cons x xs ih =>
    intro hx
    show ((g x).bind fun y => (mapO g xs).map (y :: ·)) = _
    rw [hx x (by simp), ih fun y hy => hx y (by simp [hy])]
    rfl
theorem okF_al : ∀ (j : Nat) (ns : List (List Nat)) (g : Nat) (path : List Nat), okF j ns g path = true → alO j ns g path = some (alF j ns g path) ∧ (alF j ns g path).length < 100000 ∧ ∀ w ∈ alF j ns g path, w.length < 900 := by
  intro j
  induction j with
  | zero => intro ns g path h; cases h
  | succ j ih =>
    intro ns g path h
    unfold okF at h
    simp only [Bool.and_eq_true, decide_eq_true_eq] at h
    obtain ⟨⟨b1, b2, b3⟩, ⟨c1, c2⟩, d, e, f⟩ := h
    refine ⟨?_, c1, fun w hw => of_decide_eq_true (List.all_eq_true.mp c2 w hw)⟩
    obtain ⟨cs, hcs⟩ := Option.isSome_iff_exists.mp d
    have hcf : chF ns.length = cs := by unfold chF; rw [hcs]; rfl
    unfold alO
    rw [if_pos ⟨b1, b2, b3⟩]
    unfold alF at c1 ⊢
    obtain ⟨A, hA⟩ : ∃ A, A = (if ns.length ≤ g then (alF j (ns ++ [path ++ [110]]) g (path ++ [116])).map (Pw.tk (path ++ [110]) :: ·) else []) := ⟨_, rfl⟩
    rw [← hA] at c1 ⊢
    rw [List.length_append, List.length_append] at c1
    have h1 : (if ns.length ≤ g then (alO j (ns ++ [path ++ [110]]) g (path ++ [116])).bind fun bs => foldO (fun (b : List Pw) (acc : List (List Pw)) => if acc.length < 100000 ∧ b.length < 900 then some (acc ++ [.tk (path ++ [110]) :: b]) else none) bs (al0 g ns) else some (al0 g ns)) = some (al0 g ns ++ A) := by
      by_cases hc : ns.length ≤ g
      · rw [if_pos hc] at hA e ⊢
        obtain ⟨g1, g2, g3⟩ := ih _ _ _ e
        rw [g1, Option.bind_some, foldO_app (fun b : List Pw => b.length < 900) (fun b => Pw.tk (path ++ [110]) :: b) _ _ (fun b hb => g3 b hb) (by rw [hA, List.length_map] at c1; omega), hA]
      · rw [if_neg hc] at hA ⊢
        rw [hA, List.append_nil]
    rw [h1, Option.bind_some]
    rw [foldO_flat (h := fun first => (chF ns.length).flatMap (alF4 (alF j) ns g path first)) _ _ _ ?_ (by rw [List.length_append]; omega), List.append_assoc]
    intro first hf acc hl
    rw [hcs, Option.bind_some]
    rw [hcf] at hl ⊢
    refine foldO_flat _ _ _ _ ?_ hl
    intro ages ha acc hl
    have fa := List.all_eq_true.mp (List.all_eq_true.mp f first hf) ages (by rw [hcf]; exact ha)
    unfold al4
    unfold alF4 at hl ⊢
    by_cases hc : cdF ns g first ages = true
    · rw [if_pos hc] at hl fa ⊢
      simp only [Bool.and_eq_true, decide_eq_true_eq] at fa
      obtain ⟨k1, k2, k3, k4⟩ := fa
      obtain ⟨l1, l2, l3⟩ := ih _ _ _ k3
      obtain ⟨r1, r2, r3⟩ := ih _ _ _ k4
      have hc' := hc
      unfold cdF at hc'
      simp only [Bool.and_eq_true, decide_eq_true_eq] at hc'
      have hm : mapO (fun (a : Nat) => atI ns (a : Int)) ages = some (onF ns ages) := mapO_some _ fun a ha => by
        have hl : a < ns.length := of_decide_eq_true (List.all_eq_true.mp k1 a ha)
        rw [List.getD_eq_getElem?_getD, List.getElem?_eq_getElem hl]
        exact atI_nat (List.getElem?_eq_getElem hl)
      rw [if_pos hc', hm, Option.bind_some]
      have r1' : alO j (ns.filter fun n => !decide (n ∈ onF ns ages)) (g - 1 - first) (path ++ [114]) = _ := r1
      rw [r1', Option.bind_some, l1, Option.bind_some, if_pos k2]
      refine foldO_flat _ _ _ _ ?_ hl
      intro l hl' acc hl
      have := l3 l hl'
      have key := foldO_app (fun r : List Pw => l.length < 900 ∧ r.length < 900) (fun r => Pw.gv :: (l ++ r)) (alF j (orF ns (onF ns ages)) (g - 1 - first) (path ++ [114])) acc (fun r hr => ⟨this, r3 r hr⟩) (by rw [List.length_map] at hl; omega)
      exact key
    · rw [if_neg hc] at hl ⊢
      have hc' : ¬ ((ages.length : Int) ≤ (first : Int) + 1 ∧ (ns.length : Int) - (ages.length : Int) ≤ (g : Int) - (first : Int)) := fun z => hc (by
        unfold cdF
        simp only [Bool.and_eq_true, decide_eq_true_eq]
        exact z)
      rw [if_neg hc', List.append_nil]
end Once

/-! FA47m: both lists, worked out. -/
namespace Once
open PySem PySem.Spec L2 OD F
def dueO (n : Nat) : Option (List (List Pw)) := (alO 100 [] n []).bind (mapO stO)
def prgO (R : List (List Int)) (n : Nat) (v : Nat) : Option (List (List Pw)) := mapO (fun (i : Nat) => bdO R 100 (n : Int) [] (i : Int) []) (List.range v)
def chkO (n : Nat) (v : Int) : Bool := match dueO n, mapO labO (tk tT (n + 1)) with
  | some due, some R => decide (at2 (tk tT (n + 1)) (n : Nat) 0 = some v) && (decide (at2 R (n : Nat) 0 = some v) && (decide (prgO R n v.toNat = some due) && due.all fun ws => decide (ws.length < 900)))
  | _, _ => false
theorem chk_0 : chkO 0 1 = true := by decide +kernel
theorem chk_1 : chkO 1 5 = true := by decide +kernel
theorem chk_2 : chkO 2 60 = true := by decide +kernel
/-! three givens: in pieces -/
def R3 : List (List Int) := (mapO labO (tk tT 4)).getD []
theorem R3_ok : mapO labO (tk tT 4) = some R3 := by decide +kernel
theorem tab_3 : at2 (tk tT 4) 3 0 = some 1105 := by decide +kernel
theorem lab_3 : at2 R3 3 0 = some 1105 := by decide +kernel
def L3 : List (List Pw) := alF 100 [] 3 []
theorem ok_3 : okF 100 [] 3 [] = true := by decide +kernel
theorem L3_len : L3.length = 1105 := by decide +kernel
def bd3 (i : Nat) : Option (List Pw) := bdO R3 100 3 [] (i : Int) []
def ck (a k : Nat) : Bool := match mapO stO ((L3.drop a).take k), mapO bd3 (List.range' a k) with
  | some zs, some ys => decide (zs = ys) && zs.all fun w => decide (w.length < 900)
  | _, _ => false
theorem ck_0 : ck 0 100 = true := by decide +kernel
theorem ck_1 : ck 100 100 = true := by decide +kernel
theorem ck_2 : ck 200 100 = true := by decide +kernel
theorem ck_3 : ck 300 100 = true := by decide +kernel
theorem ck_4 : ck 400 100 = true := by decide +kernel
theorem ck_5 : ck 500 100 = true := by decide +kernel
theorem ck_6 : ck 600 100 = true := by decide +kernel
theorem ck_7 : ck 700 100 = true := by decide +kernel
theorem ck_8 : ck 800 100 = true := by decide +kernel
theorem ck_9 : ck 900 100 = true := by decide +kernel
theorem ck_10 : ck 1000 105 = true := by decide +kernel
theorem mapO_get {α β : Type} {g : α → Option β} : ∀ {xs : List α} {ys : List β} (i : Nat) (x : α), mapO g xs = some ys → xs[i]? = some x → ∃ y, ys[i]? = some y ∧ g x = some y := by
  intro xs
  induction xs with
  | nil => intro ys i x h hx; simp at hx
  | cons z xs ih =>
    intro ys i x h hx
    obtain ⟨w, g1, h⟩ := bind_some h
    obtain ⟨zs, g2, rfl⟩ := Option.map_eq_some_iff.mp h
    cases i with
    | zero => simp at hx; subst hx; exact ⟨w, rfl, g1⟩
    | succ i =>
      rw [List.getElem?_cons_succ] at hx
      obtain ⟨y, k1, k2⟩ := ih i x g2 hx
      exact ⟨y, by rw [List.getElem?_cons_succ]; exact k1, k2⟩
theorem ck_at {a k i : Nat} (h : ck a k = true) (h1 : a ≤ i) (h2 : i < a + k) (h3 : i < 1105) : ∃ w, stO (L3.getD i []) = some w ∧ bd3 i = some w ∧ w.length < 900 := by
  unfold ck at h
  cases e1 : mapO stO ((L3.drop a).take k) with
  | none => rw [e1] at h; cases h
  | some zs =>
  cases e2 : mapO bd3 (List.range' a k) with
  | none => rw [e1, e2] at h; cases h
  | some ys =>
    rw [e1, e2] at h
    dsimp only at h
    rw [Bool.and_eq_true] at h
    have e := of_decide_eq_true h.1
    subst e
    have hl : i < L3.length := by rw [L3_len]; exact h3
    have g1 : ((L3.drop a).take k)[i - a]? = some (L3.getD i []) := by
      rw [List.getElem?_take_of_lt (by omega), List.getElem?_drop, show a + (i - a) = i by omega, List.getD_eq_getElem?_getD, List.getElem?_eq_getElem hl]
      rfl
    have g2 : (List.range' a k)[i - a]? = some i := by
      rw [List.getElem?_range' (by omega)]
      congr 1
      omega
    obtain ⟨y, k1, k2⟩ := mapO_get (i - a) _ e1 g1
    obtain ⟨y', k3, k4⟩ := mapO_get (i - a) _ e2 g2
    rw [k1] at k3
    cases k3
    exact ⟨y, k2, k4, of_decide_eq_true (List.all_eq_true.mp h.2 y (List.mem_of_getElem? k1))⟩
theorem all_at {i : Nat} (h : i < 1105) : ∃ w, stO (L3.getD i []) = some w ∧ bd3 i = some w ∧ w.length < 900 := by
  by_cases h0 : i < 100
  · exact ck_at ck_0 (by omega) (by omega) h
  by_cases h1 : i < 200
  · exact ck_at ck_1 (by omega) (by omega) h
  by_cases h2 : i < 300
  · exact ck_at ck_2 (by omega) (by omega) h
  by_cases h3 : i < 400
  · exact ck_at ck_3 (by omega) (by omega) h
  by_cases h4 : i < 500
  · exact ck_at ck_4 (by omega) (by omega) h
  by_cases h5 : i < 600
  · exact ck_at ck_5 (by omega) (by omega) h
  by_cases h6 : i < 700
  · exact ck_at ck_6 (by omega) (by omega) h
  by_cases h7 : i < 800
  · exact ck_at ck_7 (by omega) (by omega) h
  by_cases h8 : i < 900
  · exact ck_at ck_8 (by omega) (by omega) h
  by_cases h9 : i < 1000
  · exact ck_at ck_9 (by omega) (by omega) h
  exact ck_at ck_10 (by omega) (by omega) h
def due3 : List (List Pw) := (List.range 1105).map fun i => (bd3 i).getD []
theorem L3_map : L3 = (List.range 1105).map fun i => L3.getD i [] := by
  refine List.ext_getElem (by rw [L3_len, List.length_map, List.length_range]) fun i h1 h2 => ?_
  rw [List.getElem_map, List.getElem_range, List.getD_eq_getElem?_getD, List.getElem?_eq_getElem h1]
  rfl
theorem mapO_map {α β γ : Type} (g : β → Option γ) (f : α → β) : ∀ xs : List α, mapO g (xs.map f) = mapO (fun x => g (f x)) xs := by
  intro xs
  induction xs with
  | nil => rfl
  | cons x xs ih =>
    show ((g (f x)).bind fun y => (mapO g (xs.map f)).map (y :: ·)) = ((g (f x)).bind fun y => (mapO (fun x => g (f x)) xs).map (y :: ·))
    rw [ih]
theorem due_3 : dueO 3 = some due3 := by
  unfold dueO
  rw [(okF_al 100 [] 3 [] ok_3).1, Option.bind_some]
  show mapO stO L3 = _
  rw [L3_map, mapO_map]
  refine mapO_some _ fun i hi => ?_
  obtain ⟨w, h1, h2, _⟩ := all_at (List.mem_range.mp hi)
  rw [h1, h2]
  rfl
theorem prg_3 : prgO R3 3 1105 = some due3 := by
  refine mapO_some _ fun i hi => ?_
  obtain ⟨w, h1, h2, _⟩ := all_at (List.mem_range.mp hi)
  have h2' : bdO R3 100 3 [] (i : Int) [] = some w := h2
  show bdO R3 100 3 [] (i : Int) [] = some ((bdO R3 100 3 [] (i : Int) []).getD [])
  rw [h2']
  rfl
theorem len_3 : ∀ ws ∈ due3, ws.length < 900 := by
  intro ws hw
  obtain ⟨i, hi, rfl⟩ := List.mem_map.mp hw
  obtain ⟨w, h1, h2, h3⟩ := all_at (List.mem_range.mp hi)
  rw [h2]
  exact h3
end Once

/-! FA47k: programs, and the law. -/
namespace Once
open PySem PySem.Spec L2 OD F
theorem raw_init {c : Cs} {ws : List Pw} (hl : ws.length < 9000) : ff_RawProgram_init c [.ins c.RawProgram [], .im (pwsD ws)] = .ok (.im .non) [.ins c.RawProgram [("words", pwsD ws)], .im (pwsD ws)] := by
  have h3 : ws.length ≤ 16777216 := by omega
  have hC : c.Pb c.RawProgram = true := by simp [Cs.Pb]
  unfold pwsD
  simp [ff_RawProgram_init, fDef_eq, fb_RawProgram_init, late, hC, putFD, h3]
def prD (c : Cs) (ws : List Pw) : D := .obj c.RawProgram [("words", pwsD ws)]
/-- what is known of the numbers -/
structure NumOk (n : Nat) (v : Nat) (due : List (List Pw)) : Prop where
  n3 : n ≤ 3
  v9 : 0 < v ∧ v ≤ 9000
  hdue : dueO n = some due
  tab : at2 (tk tT (n + 1)) (n : Nat) 0 = some (v : Int)
  R : ∃ R, mapO labO (tk tT (n + 1)) = some R ∧ at2 R (n : Nat) 0 = some (v : Int) ∧ prgO R n v = some due
  len : ∀ ws ∈ due, ws.length < 900
theorem mapO_len {α β : Type} {g : α → Option β} : ∀ {xs : List α} {ys : List β}, mapO g xs = some ys → ys.length = xs.length := by
  intro xs
  induction xs with
  | nil => intro ys h; cases h; rfl
  | cons x xs ih =>
    intro ys h
    obtain ⟨y, _, h⟩ := bind_some h
    obtain ⟨zs, g2, rfl⟩ := Option.map_eq_some_iff.mp h
    rw [List.length_cons, List.length_cons, ih g2]
theorem mapO_mem {α β : Type} {g : α → Option β} {x : α} {y : β} (hy : g x = some y) : ∀ {xs : List α} {ys : List β}, mapO g xs = some ys → x ∈ xs → y ∈ ys := by
  intro xs
  induction xs with
  | nil => intro ys h hx; cases hx
  | cons z xs ih =>
    intro ys h hx
    obtain ⟨w, g1, h⟩ := bind_some h
    obtain ⟨zs, g2, rfl⟩ := Option.map_eq_some_iff.mp h
    rcases List.mem_cons.mp hx with rfl | hx
    · rw [hy] at g1
      cases g1
      exact List.mem_cons_self ..
    · exact List.mem_cons_of_mem _ (ih g2 hx)
theorem mapO_inv {α β : Type} {g : α → Option β} {y : β} : ∀ {xs : List α} {ys : List β}, mapO g xs = some ys → y ∈ ys → ∃ x, g x = some y := by
  intro xs
  induction xs with
  | nil => intro ys h hy; cases h; cases hy
  | cons z xs ih =>
    intro ys h hy
    obtain ⟨w, g1, h⟩ := bind_some h
    obtain ⟨zs, g2, rfl⟩ := Option.map_eq_some_iff.mp h
    rcases List.mem_cons.mp hy with rfl | hy
    · exact ⟨z, g1⟩
    · exact ih g2 hy
theorem NumOk.okw {n v : Nat} {due : List (List Pw)} (h : NumOk n v due) : ∀ ws ∈ due, ∀ w ∈ ws, w.ok := by
  obtain ⟨R, _, _, h3⟩ := h.R
  intro ws hw
  obtain ⟨i, hi⟩ := mapO_inv h3 hw
  exact (build_sim 100 _ _ _ _ _ hi (by simp) (by simp)).1
theorem NumOk.dl {n v : Nat} {due : List (List Pw)} (h : NumOk n v due) : due.length = v := by
  obtain ⟨R, _, _, h3⟩ := h.R
  rw [mapO_len h3, List.length_range]
theorem numOk_of {n v : Nat} (h3 : n ≤ 3) (hv : 0 < v ∧ v ≤ 9000) (h : chkO n (v : Int) = true) : ∃ due, NumOk n v due := by
  unfold chkO at h
  cases hd : dueO n with
  | none => rw [hd] at h; cases h
  | some due =>
  cases hR : mapO labO (tk tT (n + 1)) with
  | none => rw [hd, hR] at h; cases h
  | some R =>
    rw [hd, hR] at h
    dsimp only at h
    rw [Bool.and_eq_true, Bool.and_eq_true, Bool.and_eq_true] at h
    obtain ⟨h1, h2, h4, h5⟩ := h
    refine ⟨due, h3, hv, hd, of_decide_eq_true h1, ⟨R, hR, of_decide_eq_true h2, ?_⟩, fun ws hw => of_decide_eq_true (List.all_eq_true.mp h5 ws hw)⟩
    have := of_decide_eq_true h4
    rwa [Int.toNat_natCast] at this
theorem numOk (n : Nat) (h : n ≤ 3) : ∃ v due, NumOk n v due := by
  match n, h with
  | 0, _ => obtain ⟨d, h⟩ := numOk_of (n := 0) (v := 1) (by omega) (by omega) chk_0; exact ⟨_, d, h⟩
  | 1, _ => obtain ⟨d, h⟩ := numOk_of (n := 1) (v := 5) (by omega) (by omega) chk_1; exact ⟨_, d, h⟩
  | 2, _ => obtain ⟨d, h⟩ := numOk_of (n := 2) (v := 60) (by omega) (by omega) chk_2; exact ⟨_, d, h⟩
  | 3, _ => exact ⟨1105, due3, ⟨by omega, by omega, due_3, tab_3, ⟨R3, R3_ok, lab_3, prg_3⟩, len_3⟩⟩
theorem tk_len {n : Nat} : ∀ r ∈ tk tT (n + 1), r.length ≤ 1000 := by
  intro r hr
  obtain ⟨r', h1, rfl⟩ := List.mem_map.mp hr
  rw [List.length_map]
  have : ∀ x ∈ tT, x.length ≤ 1000 := by decide +kernel
  exact this r' (List.mem_of_mem_take h1)
/-- comprehensions that make objects -/
theorem programs_eq {c : Cs} {n v : Nat} {due : List (List Pw)} (h : NumOk n v due) : ff_programs c [.im (.int (n : Nat))] = .ok (.lst (due.map (prD c))) [.im (.int (n : Nat))] := by
  obtain ⟨R, h1, h2, h3⟩ := h.R
  have n3 := h.n3
  have e1 := labelled_at h.n3 h1 tk_len
  have z1 : (0 : Int) ≤ n := by omega
  have z2 : (n : Int) ≤ 3 := by omega
  have e2 : ff_is_within [.im (.int (n : Nat)), .im (.int 0), .im (.int 3)] = .ok (.im (.bl true)) [.im (.int (n : Nat)), .im (.int 0), .im (.int 3)] := by
    simp [ff_is_within, fDef_eq, fb_is_within, ff_is_integer, fb_is_integer, late, z1, z2]
  obtain ⟨r, a1, a2⟩ := at2_row h2
  have v9 := h.v9
  obtain ⟨s', g1, g2⟩ := lcL_sim (vs := [2]) (tg := gName 2) (t := tYes) (ef := fMake c.RawProgram 2 (ff_RawProgram_init c) (fCons (fCall 3 ff_raw_program_at (rO 1 (rO 0 (rO 2 rNil)))) fNil)) (fun (i : Nat) => D.int (i : Int)) (prD c) (fun (i : Nat) => bdO R 100 (n : Int) [] (i : Int) []) (s0 := [some (.im (.int (n : Nat))), some (.im (rwD R)), none]) (List.range v) due [some (.im (.int (n : Nat))), some (.im (rwD R)), none] [] rfl (by simp; omega) (fun i hi ws hw => by
    have e3 := raw_program_at_sim hw
    refine ⟨_, _, [some (.im (.int (n : Nat))), some (.im (rwD R)), some (.im (.int (i : Int)))], rfl, rfl, ?_, rfl⟩
    have hm : ws ∈ due := mapO_mem (g := fun (i : Nat) => bdO R 100 (n : Int) [] (i : Int) []) hw h3 hi
    have e4 := raw_init (c := c) (ws := ws) (by have := h.len ws hm; omega)
    unfold pwsD at e4
    unfold prD pwsD
    simp [late, e3, e4, made]) h3
  rw [← rg_map, List.nil_append] at g1
  have hw : s'.set 2 none = [some (.im (.int (n : Nat))), some (.im (rwD R)), none] := g2
  have z3 : (v : Int) < 4611686018427387904 := by omega
  unfold rwD at e1 g1 hw
  simp [-rgL, ff_programs, fDef_eq, fb_programs, ff_check_number, fb_check_number, late, e1, e2, a1, a2, z3, g1, hw]
theorem pl_ws (ws : List Pw) (h : ∀ w ∈ ws, w.ok) : pl 1 (.tup (ws.map pw)) = true := by
  show (ws.map pw).all (pl 0) = true
  rw [List.all_eq_true]
  intro d hd
  obtain ⟨w, hw, rfl⟩ := List.mem_map.mp hd
  have ok := h w hw
  have key : ∀ l : List Nat, (∀ c ∈ l, c < 0x110000) → pl 0 (.str (mkS l)) = true := by
    intro l hl
    show (mkS l).cps.all (· < 0x110000) = true
    rw [← Array.all_toList, mkS_cps, List.all_eq_true]
    exact fun c hc => decide_eq_true (hl c hc)
  cases w with
  | gv => exact key [64] (by simp)
  | tk n =>
    refine key (47 :: n) fun c hc => ?_
    rcases List.mem_cons.mp hc with rfl | hc
    · omega
    · have := ok.2.2 c hc; omega
  | us n =>
    refine key n fun c hc => ?_
    have := ok.2.2 c hc
    omega
theorem eqW_ws (ws : List Pw) (h : ∀ w ∈ ws, w.ok) : eqW (.tup (ws.map pw)) (.tup (ws.map pw)) = some true := eqW_same 1 (by decide) (pl_ws ws h)
theorem is_words_eq {c : Cs} (ws : List Pw) (hw : ∀ w ∈ ws, w.ok) : ff_law_is_words c [.im (prD c ws), .im (pwsD ws)] = .ok (.im (.bl true)) [.im (prD c ws), .im (pwsD ws)] := by
  have hR : c.Pb c.RawProgram = true := by simp [Cs.Pb]
  have ew : eqW (pwsD ws) (pwsD ws) = some true := eqW_ws ws hw
  have isi : isiOF c.rel [prD c ws, .cls c.Program] = some (.bl true) := by simp [prD, Cs.rel]
  unfold pwsD at ew
  unfold prD pwsD at isi ⊢
  simp [ff_law_is_words, fDef_eq, fb_law_is_words, late, isi, hR, ew]
abbrev lS (ns : List Int) (p : PotC) (o2 o3 o4 o5 o6 : Option Sv) : Sl := [some (.im (.scr ns)), some (.pot p), o2, o3, o4, o5, o6, none]
abbrev duD (due : List (List Pw)) : D := .lst (due.map pwsD)
theorem fSq {a b : FS} {s s1 : Sl} {o : O} (h : a s = .nx s1) (h2 : b s1 = o) : fSeq a b s = o := by rw [fSeq_nx2 h, h2]
theorem law_turn {c : Cs} {ns : List Int} {p : PotC} (hp : p.ss ≠ []) {n v : Nat} {due : List (List Pw)} (h : NumOk n v due) {o4 o5 o6 : Option Sv} : ∃ p' o5' o6', p'.ss ≠ [] ∧ fb_law_2 c (lS ns p (some (.im (.int (n : Nat)))) (some (.im (duD due))) o4 o5 o6) = .nx (lS ns p' (some (.im (.int (n : Nat)))) (some (.im (duD due))) o4 o5' o6') := by
  have e1 := programs_eq (c := c) h
  have hd := h.dl
  have v9 := h.v9
  obtain ⟨d, p', hp', d1, d2⟩ := draw_nat (c := p) (n := due.length) hp (by omega) (by omega)
  obtain ⟨x, t, hx⟩ : ∃ x t, due = x :: t := by
    cases due with
    | nil => simp at hd; omega
    | cons x t => exact ⟨x, t, rfl⟩
  have loop : ∀ o6 : Option Sv, ∃ o6', forL (gName 6) (fb_law_1 c) (rgL 0 1 due.length) (lS ns p (some (.im (.int (n : Nat)))) (some (.im (duD due))) o4 (some (.lst (due.map (prD c)))) o6) = .nx (lS ns p (some (.im (.int (n : Nat)))) (some (.im (duD due))) o4 (some (.lst (due.map (prD c)))) o6') := by
    intro o6
    obtain ⟨s', e, o6', rfl⟩ := forL_sim (tg := gName 6) (body := fb_law_1 c) (fun (i : Nat) => D.int (i : Int)) (fun (_ : Unit) s => ∃ o6, s = lS ns p (some (.im (.int (n : Nat)))) (some (.im (duD due))) o4 (some (.lst (due.map (prD c)))) o6) (fun _ _ => some ()) (List.range due.length) () () (lS ns p (some (.im (.int (n : Nat)))) (some (.im (duD due))) o4 (some (.lst (due.map (prD c)))) o6) (fun i hi a b s hR hs => by
      obtain ⟨o6, rfl⟩ := hR
      have hi' : i < due.length := List.mem_range.mp hi
      have a1 : atI (due.map (prD c)) (i : Int) = some (prD c due[i]) := atI_nat (by rw [List.getElem?_map, List.getElem?_eq_getElem hi']; rfl)
      have a2 : atI (due.map pwsD) (i : Int) = some (pwsD due[i]) := atI_nat (by rw [List.getElem?_map, List.getElem?_eq_getElem hi']; rfl)
      have e3 := is_words_eq (c := c) due[i] (h.okw _ (List.getElem_mem hi'))
      refine ⟨_, lS ns p (some (.im (.int (n : Nat)))) (some (.im (duD due))) o4 (some (.lst (due.map (prD c)))) (some (.im (.int (i : Nat)))), rfl, ?_, _, rfl⟩
      revert a1 a2 e3
      generalize prD c due[i] = A
      generalize pwsD due[i] = B
      intro e3 a1 a2
      simp [fb_law_1, late, a1, a2, e3]) ⟨_, rfl⟩ (by
        have : ∀ xs : List Nat, foldO (fun (_ : Nat) (_ : Unit) => some ()) xs () = some () := by
          intro xs
          induction xs with
          | nil => rfl
          | cons x xs ih => exact ih
        exact this _)
    rw [← rg_map] at e
    exact ⟨o6', e⟩
  obtain ⟨o6', e4⟩ := loop o6
  refine ⟨p', some (.lst ((due.map (prD c) ++ [prD c x]).set d .non)), o6', hp', ?_⟩
  have z1 : due.length < 16777216 := by omega
  have z2 : (due.length : Int) < 4611686018427387904 := by omega
  have z3 : ixN (due.length + 1) (d : Int) = some d := ixN_nat (by omega)
  have a0 : atI (due.map (prD c)) ((0 : Nat) : Int) = some (prD c x) := atI_nat (by rw [hx]; rfl)
  rw [show ((0 : Nat) : Int) = 0 from rfl] at a0
  unfold fb_law_2
  refine fSq (s1 := lS ns p (some (.im (.int (n : Nat)))) (some (.im (duD due))) o4 (some (.lst (due.map (prD c)))) o6) (by simp [late, e1]) ?_
  refine fSq (s1 := lS ns p (some (.im (.int (n : Nat)))) (some (.im (duD due))) o4 (some (.lst (due.map (prD c)))) o6) (by simp [late]) ?_
  refine fSq (s1 := lS ns p (some (.im (.int (n : Nat)))) (some (.im (duD due))) o4 (some (.lst (due.map (prD c)))) o6') (by simp [-rgL, late, z2, e4]) ?_
  refine fSq (s1 := lS ns p (some (.im (.int (n : Nat)))) (some (.im (duD due))) o4 (some (.lst (due.map (prD c) ++ [prD c x]))) o6') (by simp [late, a0, z1]) ?_
  simp [late, d2, z3]
theorem law_holds (c : Cs) (ns : List Int) (hn : ns.length ≤ 63) : ∃ outs, ff_law c [.im (.scr ns)] = .ok (.im (.bl true)) outs := by
  have hpot : ff_law_pot [.im (.scr ns)] = .ok (.pot (potV ns)) [.im (.scr ns)] := if_pos hn
  obtain ⟨d0, p0, hp0, d01, d02⟩ := draw_nat (c := potV ns) (n := 24) potV_ss (by omega) (by decide)
  rw [show ((24 : Nat) : Int) = 24 from rfl] at d02
  have hsz : ∃ (n : Nat) (p1 : PotC), n ≤ 3 ∧ p1.ss ≠ [] ∧ (fAsg (fIf (fTest (fOp (eqF false) (oE (fCall 2 ff_law_draw (rO 1 (rE (fC (.int 24)) rNil)))) (oE (fC (.int 7))))) (fC (.int 3)) (fCall 2 ff_law_draw (rO 1 (rE (fC (.int 3)) rNil)))) 2) (lS ns (potV ns) none none none none none) = .nx (lS ns p1 (some (.im (.int (n : Nat)))) none none none none) := by
    by_cases h7 : d0 = 7
    · refine ⟨3, p0, by omega, hp0, ?_⟩
      subst h7
      simp [late, d02]
    · obtain ⟨d1, p1, hp1, d11, d12⟩ := draw_nat (c := p0) (n := 3) hp0 (by omega) (by decide)
      rw [show ((3 : Nat) : Int) = 3 from rfl] at d12
      refine ⟨d1, p1, by omega, hp1, ?_⟩
      have h7' : ¬ ((d0 : Int) = 7) := by omega
      simp [late, d02, d12, h7']
  obtain ⟨n, p1, n3, hp1, e1⟩ := hsz
  obtain ⟨v, due, h⟩ := numOk n n3
  have hd := h.dl
  have v9 := h.v9
  obtain ⟨all, g1, g2⟩ := bind_some h.hdue
  have e2 : ff_law_all [.im (ntD []), .im (.int (n : Nat)), .im (.str (mkS []))] = _ := AllOk.all 100 [] n [] all g1
  have e3 : (fAsg (fLc (iSeq (fCall 3 ff_law_all (rE (fTup fNil) (rO 2 (rE (fC (.str "")) rNil))))) [7] (gName 7) tYes (fCall 1 ff_law_standard (rO 7 rNil))) 3) (lS ns p1 (some (.im (.int (n : Nat)))) none none none none) = .nx (lS ns p1 (some (.im (.int (n : Nat)))) (some (.im (duD due))) none none none) := by
    obtain ⟨s', k1, k2⟩ := lcL_sim (vs := [7]) (tg := gName 7) (t := tYes) (ef := fCall 1 ff_law_standard (rO 7 rNil)) pwsD pwsD stO (s0 := lS ns p1 (some (.im (.int (n : Nat)))) none none none none) all due (lS ns p1 (some (.im (.int (n : Nat)))) none none none none) [] rfl (by have := mapO_len g2; simp; omega) (fun ws hw r hr => by
      have es := law_standard_sim hr
      refine ⟨_, _, [some (.im (.scr ns)), some (.pot p1), some (.im (.int (n : Nat))), none, none, none, none, some (.im (pwsD ws))], rfl, rfl, ?_, rfl⟩
      unfold pwsD at es ⊢
      simp [late, es]) g2
    have hi : iSeq (fCall 3 ff_law_all (rE (fTup fNil) (rO 2 (rE (fC (.str "")) rNil)))) (lS ns p1 (some (.im (.int (n : Nat)))) none none none none) = .ok (all.map pwsD) (lS ns p1 (some (.im (.int (n : Nat)))) none none none none) := by
      rw [show ntD [] = D.tup [] from rfl] at e2
      unfold pwsD at e2 ⊢
      simp [late, e2, s_no]
    have := fLc_eq hi (by simp) k1 (by rw [k2]; rfl)
    simp [-fLc, fAsg, this]
  have e4 := many_at n3 h.tab
  obtain ⟨p2, o5, o6, hp2, t1⟩ := law_turn (c := c) (ns := ns) hp1 h (o4 := some (.im (.int 0))) (o5 := none) (o6 := none)
  obtain ⟨p3, o5', o6', hp3, t2⟩ := law_turn (c := c) (ns := ns) hp2 h (o4 := some (.im (.int 1))) (o5 := o5) (o6 := o6)
  refine ⟨[.im (.scr ns)], ?_⟩
  rw [ff_law, fDef_eq (by rfl)]
  unfold fb_law
  refine (congrArg (rsOf _) ((fSq (s1 := lS ns (potV ns) none none none none none) (by simp [late, hpot]) ?_) : _ = O.rt (.im (.bl true)) (lS ns p3 (some (.im (.int (n : Nat)))) (some (.im (duD due))) (some (.im (.int 1))) o5' o6'))).trans ?_
  · refine fSq e1 (fSq e3 ?_)
    refine fSq (s1 := lS ns p1 (some (.im (.int (n : Nat)))) (some (.im (duD due))) none none none) (by simp [late, e4, hd]) ?_
    refine fSq (s1 := lS ns p3 (some (.im (.int (n : Nat)))) (some (.im (duD due))) (some (.im (.int 1))) o5' o6') ?_ ?_
    · simp only [lS] at t1 t2 ⊢
      simp [late, rg2x, forL_cons, t1, t2]
    · simp [late]
  · rfl
end Once

/-! the walk, and the end -/
namespace Once
open PySem PySem.Spec L2 OD F
abbrev topS (i : Nat) : Stmt := PySem.Challenge.pw_oncekinds_k47_whole_programs_listed.main.body.getD i (.Pass ⟨0, 0, 0, 0⟩)
section
variable {P : Program} {w : World} {K : PySem.W.Frag} {mg : Str → Option Value} {base : Heap}
abbrev s_law_pot : Stmt := topS 44
theorem sc_law_pot : FnScope ["_law_script", "_law_cells", "_law_greats", "_law_smalls", "_law_item"] ["_law_script"] (defScope s_law_pot) := ⟨rfl, rfl, rfl, by decide +kernel, rfl, by decide +kernel, by decide +kernel⟩
theorem ok_law_pot {f : Addr} {fd : FuncData} (Fn : Fun K "_law_pot" "_law_pot" s_law_pot f fd) (m : mg "_law_pot" = some (.ref f)) (z_int : mg "int" = none) (z_sum : mg "sum" = none) (z_abs : mg "abs" = none) (z_len : mg "len" = none) : DefOk P w K mg base 1 "_law_pot" ["_law_script"] (fdN 1 ff_law_pot) := by
  exact .of Fn m (Fn.binds fun _ _ _ _ _ _ us hl => match us, hl with | [_], _ => rfl) sc_law_pot fdN_len (fun cdv A outer s H E hr => by
    have hu := hr.units
    have nd := sc_law_pot.nd
    exact (db_cons (ds_setLc (i := 1) false (own := [("_law_item", 4)]) rfl nd (di_seq (de_sl (o := false) (de_var (pv 0)) do_none (do_some de_int))) (blkOk_by (N := ["_law_script", "_law_cells", "_law_greats", "_law_smalls", "_law_item"]) (sc := defScope s_law_pot) (by decide +kernel)) (fun _ _ _ _ _ => (dc_name (i := 4) nd (by decide))) (fun _ _ _ _ _ => dp_nil) (fun _ _ _ _ _ => (de_callTy call_int1 sc_int z_int (da_cons (de_var (pv 4)) da_nil))))
      (db_cons (ds_setLc (i := 2) true (own := [("_law_item", 4)]) rfl nd (di_seq (de_var (pv 1))) (blkOk_by (N := ["_law_script", "_law_cells", "_law_greats", "_law_smalls", "_law_item"]) (sc := defScope s_law_pot) (by decide +kernel)) (fun _ _ _ _ _ => (dc_name (i := 4) nd (by decide))) (fun _ _ _ _ _ => (dp_one (dt_cmp op_geA sv_ord (de_callB call_abs sc_abs z_abs (da_cons (de_var (pv 4)) da_nil)) (de_op op_pow sv_pow de_int de_int)))) (fun _ _ _ _ _ => (de_callB call_abs sc_abs z_abs (da_cons (de_var (pv 4)) da_nil))))
      (db_cons (ds_set (i := 3) nd (de_op op_addA (sv_add (o := true)) (de_lc false (own := [("_law_item", 4)]) rfl nd (di_seq (de_var (pv 1))) (blkOk_by (N := ["_law_script", "_law_cells", "_law_greats", "_law_smalls", "_law_item"]) (sc := defScope s_law_pot) (by decide +kernel)) (fun _ _ _ _ _ => (dc_name (i := 4) nd (by decide))) (fun _ _ _ _ _ => (dp_one (dt_cmp op_ltA sv_ord (de_callB call_abs sc_abs z_abs (da_cons (de_var (pv 4)) da_nil)) (de_op op_pow sv_pow de_int de_int)))) (fun _ _ _ _ _ => (de_op op_mod sv_mod (de_callTy call_int1 sc_int z_int (da_cons (de_var (pv 4)) da_nil)) de_int))) (de_lst false (da_cons (de_op op_addA (sv_add (o := false)) (de_callB call_lenA sc_len z_len (da_cons (de_var (pv 1)) da_nil)) de_int) da_nil))))
      (db_one (ds_ret false (de_lst true (da_cons (de_var (pv 2)) (da_cons (de_var (pv 3)) (da_cons de_int (da_cons (de_op op_mod sv_mod (de_callTy call_int1 sc_int z_int (da_cons (de_callB (cr_sum rfl) sc_sum z_sum (da_cons (de_var (pv 3)) da_nil)) da_nil)) de_int) da_nil))))))))))) F.rd_law_pot
abbrev s_law_draw : Stmt := topS 45
theorem sc_law_draw : FnScope ["_law_pot_here", "_law_limit", "_law_turn", "_law_seed", "_law_number"] ["_law_pot_here", "_law_limit"] (defScope s_law_draw) := ⟨rfl, rfl, rfl, by decide +kernel, rfl, by decide +kernel, by decide +kernel⟩
theorem ok_law_draw {f : Addr} {fd : FuncData} (Fn : Fun K "_law_draw" "_law_draw" s_law_draw f fd) (m : mg "_law_draw" = some (.ref f)) (z_int : mg "int" = none) (z_len : mg "len" = none) : DefOk P w K mg base 1 "_law_draw" ["_law_pot_here", "_law_limit"] (fdN 2 ff_law_draw) := by
  exact .of Fn m (Fn.binds fun _ _ _ _ _ _ us hl => match us, hl with | [_, _], _ => rfl) sc_law_draw fdN_len (fun cdv A outer s H E hr => by
    have hu := hr.units
    have nd := sc_law_draw.nd
    exact (db_cons (ds_set (i := 2) nd (de_ix hu (de_var (pv 0)) de_int))
      (db_cons (ds_setIx hu (de_op op_addA (sv_add (o := false)) (de_var (pv 2)) de_int) (de_var (pv 0)) de_int)
      (db_cons (ds_if (dt_cmp op_gtA sv_ord (de_callB call_lenA sc_len z_len (da_cons (de_ix hu (de_var (pv 0)) de_int) da_nil)) de_int) (db_cons (ds_set (i := 4) nd (de_ix hu (de_ix hu (de_var (pv 0)) de_int) de_int))
      (db_cons (ds_setIx hu (de_op op_fdivW sv_div (de_var (pv 4)) (de_var (pv 1))) (de_ix hu (de_var (pv 0)) de_int) de_int)
      (db_cons (ds_if (dt_cmp op_ltA sv_ord (de_var (pv 4)) (de_var (pv 1))) (db_one (ds_expr (de_mth PySem.F.slot_list_pop PySem.F.type_list_pop mt_popAt sm_popAt (de_ix hu (de_var (pv 0)) de_int) (da_cons de_int da_nil)))) db_nil)
      (db_one (ds_ret false (de_op op_mod sv_mod (de_callTy call_int1 sc_int z_int (da_cons (de_var (pv 4)) da_nil)) (de_var (pv 1)))))))) db_nil)
      (db_cons (ds_set (i := 3) nd (de_op op_addA (sv_add (o := false)) (de_op op_addA (sv_add (o := false)) (de_op op_mulA (sv_mul (o := false)) (de_ix hu (de_ix hu (de_var (pv 0)) de_int) (de_op op_mod sv_mod (de_callTy call_int1 sc_int z_int (da_cons (de_var (pv 2)) da_nil)) (de_callB call_lenA sc_len z_len (da_cons (de_ix hu (de_var (pv 0)) de_int) da_nil)))) de_int) (de_op op_mulA (sv_mul (o := false)) de_int (de_var (pv 2)))) (de_op op_mulA (sv_mul (o := false)) (de_ix hu (de_var (pv 0)) de_int) de_int)))
      (db_cons (ds_set (i := 4) nd (de_op op_mod sv_mod (de_callTy call_int1 sc_int z_int (da_cons (de_op op_addA (sv_add (o := false)) (de_op op_mulA (sv_mul (o := false)) (de_var (pv 3)) de_int) de_int) da_nil)) de_int))
      (db_cons (ds_set (i := 4) nd (de_op op_mod sv_mod (de_callTy call_int1 sc_int z_int (da_cons (de_op op_mulA (sv_mul (o := false)) (de_var (pv 4)) (de_op op_addA (sv_add (o := false)) (de_op op_fdivW sv_div (de_var (pv 4)) de_int) de_int)) da_nil)) de_int))
      (db_cons (ds_set (i := 4) nd (de_op op_mod sv_mod (de_callTy call_int1 sc_int z_int (da_cons (de_op op_addA (sv_add (o := false)) (de_op op_mulA (sv_mul (o := false)) (de_var (pv 4)) (de_op op_addA (sv_add (o := false)) (de_op op_fdivW sv_div (de_var (pv 4)) de_int) de_int)) (de_var (pv 2))) da_nil)) de_int))
      (db_one (ds_ret false (de_op op_mod sv_mod (de_callTy call_int1 sc_int z_int (da_cons (de_op op_fdivW sv_div (de_var (pv 4)) de_int) da_nil)) (de_var (pv 1))))))))))))) F.rd_law_draw
abbrev s_law_choices : Stmt := topS 49
theorem sc_law_choices : FnScope ["_law_least", "_law_limit", "_law_found", "_law_age", "_law_more"] ["_law_least", "_law_limit"] (defScope s_law_choices) := ⟨rfl, rfl, rfl, by decide +kernel, rfl, by decide +kernel, by decide +kernel⟩
theorem ok_law_choices {f : Addr} {fd : FuncData} (Fn : Fun K "_law_choices" "_law_choices" s_law_choices f fd) (m : mg "_law_choices" = some (.ref f)) (z_range : mg "range" = none) : DefOk P w K mg base 100 "_law_choices" ["_law_least", "_law_limit"] (fdN 2 ff_law_choices) := by
  exact DefOk.rec (k := 0) Fn m (Fn.binds fun _ _ _ _ _ _ us hl => match us, hl with | [_, _], _ => rfl) sc_law_choices rfl rfl (fun ff j c_rec cdv A outer s H E hr => by
    have hu := hr.units
    have nd := sc_law_choices.nd
    exact (db_cons (ds_set (i := 2) nd (de_lst true (da_cons (de_tup da_nil) da_nil)))
      (db_cons (ds_for PassesOwn.never rfl (di_range2 z_range (da_cons (de_var (pv 0)) (da_cons (de_var (pv 1)) da_nil))) (dg_name (i := 3) nd) (db_one (ds_for PassesOwn.never rfl (di_seq (de_callN c_rec (hr.mono (Nat.le_refl _)) (da_cons (de_op op_addA (sv_add (o := false)) (de_var (pv 3)) de_int) (da_cons (de_var (pv 1)) da_nil)))) (dg_name (i := 4) nd) (db_one (ds_expr (de_app (de_var (pv 2)) (de_op op_addA (sv_add (o := false)) (de_tup (da_cons (de_var (pv 3)) da_nil)) (de_var (pv 4)))))))))
      (db_one (ds_ret true (de_var (pv 2))))))) sm_law_choices 100
abbrev s_law_all : Stmt := topS 50
theorem sc_law_all : FnScope ["_law_names", "_law_givens", "_law_path", "_law_found", "_law_first", "_law_name", "_law_body", "_law_ages", "_law_one", "_law_others", "_law_rights", "_law_left", "_law_right", "_law_age"] ["_law_names", "_law_givens", "_law_path"] (defScope s_law_all) := ⟨rfl, rfl, rfl, by decide +kernel, rfl, by decide +kernel, by decide +kernel⟩
theorem ok_law_all {f : Addr} {fd : FuncData} (Fn : Fun K "_law_all" "_law_all" s_law_all f fd) (m : mg "_law_all" = some (.ref f)) (c__law_choices : DefOk P w K mg base 100 "_law_choices" ["_law_least", "_law_limit"] (fdN 2 ff_law_choices)) (z_len : mg "len" = none) (z_tuple : mg "tuple" = none) (z_range : mg "range" = none) : DefOk P w K mg base 200 "_law_all" ["_law_names", "_law_givens", "_law_path"] (fdN 3 ff_law_all) := by
  exact DefOk.rec (k := 100) Fn m (Fn.binds fun _ _ _ _ _ _ us hl => match us, hl with | [_, _, _], _ => rfl) sc_law_all rfl rfl (fun ff j c_rec cdv A outer s H E hr => by
    have hu := hr.units
    have nd := sc_law_all.nd
    exact (db_cons (ds_set (i := 3) nd (de_lst true da_nil))
      (db_cons (ds_if (DWx.dt (dw_and (dt_cmp (op_eqA hu) sv_eq (de_var (pv 1)) de_int) (dw_and1 (dt_cmp (op_eqA hu) sv_eq (de_callB call_lenA sc_len z_len (da_cons (de_var (pv 0)) da_nil)) de_int)))) (db_one (ds_expr (de_app (de_var (pv 3)) (de_tup (da_cons (de_ix hu (de_var (pv 0)) de_int) da_nil))))) db_nil)
      (db_cons (ds_if (dt_cmp op_leA sv_ord (de_callB call_lenA sc_len z_len (da_cons (de_var (pv 0)) da_nil)) (de_var (pv 1))) (db_cons (ds_set (i := 5) nd (de_op op_addA (sv_add (o := false)) (de_var (pv 2)) de_str))
      (db_one (ds_for PassesOwn.never rfl (di_seq (de_callN c_rec (hr.mono (Nat.le_refl _)) (da_cons (de_op op_addA (sv_add (o := false)) (de_var (pv 0)) (de_tup (da_cons (de_var (pv 5)) da_nil))) (da_cons (de_var (pv 1)) (da_cons (de_op op_addA (sv_add (o := false)) (de_var (pv 2)) de_str) da_nil))))) (dg_name (i := 6) nd) (db_one (ds_expr (de_app (de_var (pv 3)) (de_op op_addA (sv_add (o := false)) (de_tup (da_cons (de_op op_addA (sv_add (o := false)) de_str (de_var (pv 5))) da_nil)) (de_var (pv 6))))))))) db_nil)
      (db_cons (ds_for PassesOwn.never rfl (di_range1 z_range (da_cons (de_var (pv 1)) da_nil)) (dg_name (i := 4) nd) (db_one (ds_for PassesOwn.never rfl (di_seq (de_callN c__law_choices (hr.mono (by omega)) (da_cons de_int (da_cons (de_callB call_lenA sc_len z_len (da_cons (de_var (pv 0)) da_nil)) da_nil)))) (dg_name (i := 7) nd) (db_one (ds_if (DWx.dt (dw_and (dt_cmp op_leA sv_ord (de_callB call_lenA sc_len z_len (da_cons (de_var (pv 7)) da_nil)) (de_op op_addA (sv_add (o := false)) (de_var (pv 4)) de_int)) (dw_and1 (dt_cmp op_leA sv_ord (de_op op_sub sv_sub (de_callB call_lenA sc_len z_len (da_cons (de_var (pv 0)) da_nil)) (de_callB call_lenA sc_len z_len (da_cons (de_var (pv 7)) da_nil))) (de_op op_sub sv_sub (de_var (pv 1)) (de_var (pv 4))))))) (db_cons (ds_set (i := 8) nd (de_callTy call_tuple_of sc_tuple z_tuple (da_cons (de_lc false (own := [("_law_age", 13)]) rfl nd (di_seq (de_var (pv 7))) (blkOk_by (N := ["_law_names", "_law_givens", "_law_path", "_law_found", "_law_first", "_law_name", "_law_body", "_law_ages", "_law_one", "_law_others", "_law_rights", "_law_left", "_law_right", "_law_age"]) (sc := defScope s_law_all) (by decide +kernel)) (fun _ _ _ _ _ => (dc_name (i := 13) nd (by decide))) (fun _ _ _ _ _ => dp_nil) (fun _ _ _ _ _ => (de_ix hu (de_var (pv 0)) (de_var (pv 13))))) da_nil)))
      (db_cons (ds_set (i := 9) nd (de_callTy call_tuple_of sc_tuple z_tuple (da_cons (de_lc false (own := [("_law_name", 5)]) rfl nd (di_seq (de_var (pv 0))) (blkOk_by (N := ["_law_names", "_law_givens", "_law_path", "_law_found", "_law_first", "_law_name", "_law_body", "_law_ages", "_law_one", "_law_others", "_law_rights", "_law_left", "_law_right", "_law_age"]) (sc := defScope s_law_all) (by decide +kernel)) (fun _ _ _ _ _ => (dc_name (i := 5) nd (by decide))) (fun _ _ _ _ _ => (dp_one (dt_cmp (op_notInA hu) (sv_in (n := true)) (de_var (pv 5)) (de_var (pv 8))))) (fun _ _ _ _ _ => (de_var (pv 5)))) da_nil)))
      (db_cons (ds_set (i := 10) nd (de_callN c_rec (hr.mono (Nat.le_refl _)) (da_cons (de_var (pv 9)) (da_cons (de_op op_sub sv_sub (de_op op_sub sv_sub (de_var (pv 1)) de_int) (de_var (pv 4))) (da_cons (de_op op_addA (sv_add (o := false)) (de_var (pv 2)) de_str) da_nil)))))
      (db_one (ds_for PassesOwn.never rfl (di_seq (de_callN c_rec (hr.mono (Nat.le_refl _)) (da_cons (de_var (pv 8)) (da_cons (de_var (pv 4)) (da_cons (de_op op_addA (sv_add (o := false)) (de_var (pv 2)) de_str) da_nil))))) (dg_name (i := 11) nd) (db_one (ds_for PassesOwn.never rfl (di_seq (de_var (pv 10))) (dg_name (i := 12) nd) (db_one (ds_expr (de_app (de_var (pv 3)) (de_op op_addA (sv_add (o := false)) (de_op op_addA (sv_add (o := false)) (de_tup (da_cons de_str da_nil)) (de_var (pv 11))) (de_var (pv 12))))))))))))) db_nil)))))
      (db_one (ds_ret true (de_var (pv 3))))))))) sm_law_all 100
abbrev s_law_letters : Stmt := topS 47
theorem sc_law_letters : FnScope ["_law_number", "_law_found", "_law_left"] ["_law_number"] (defScope s_law_letters) := ⟨rfl, rfl, rfl, by decide +kernel, rfl, by decide +kernel, by decide +kernel⟩
theorem ok_law_letters {f : Addr} {fd : FuncData} {yy : Str} (Fn : Fun K "_law_letters" "_law_letters" s_law_letters f fd) (m : mg yy = some (.ref f)) (z_int : mg "int" = none) : DefOk P w K mg base 1 yy ["_law_number"] (fdN 1 ff_law_letters) := by
  exact DefOk.fnA Fn m (Fn.binds fun _ _ _ _ _ _ us hl => match us, hl with | [_], _ => rfl) sc_law_letters rfl rfl (fun cdv A outer s H E hr => by
    have hu := hr.units
    have nd := sc_law_letters.nd
    exact (db_cons (ds_set (i := 1) nd de_str)
      (db_cons (ds_set (i := 2) nd (de_op op_addA (sv_add (o := false)) (de_var (pv 0)) de_int))
      (db_cons (ds_while PassesOwn.never (dt_cmp op_gtA sv_ord (de_var (pv 2)) de_int) (db_cons (ds_set (i := 2) nd (de_op op_sub sv_sub (de_var (pv 2)) de_int))
      (db_cons (ds_set (i := 1) nd (de_op op_addA (sv_add (o := false)) (de_ix hu de_str (de_op op_mod sv_mod (de_callTy call_int1 sc_int z_int (da_cons (de_var (pv 2)) da_nil)) de_int)) (de_var (pv 1))))
      (db_one (ds_set (i := 2) nd (de_op op_fdivW sv_div (de_var (pv 2)) de_int))))))
      (db_one (ds_ret false (de_var (pv 1)))))))) sm_law_letters
abbrev s_law_standard : Stmt := topS 48
theorem sc_law_standard : FnScope ["_law_words", "_law_called", "_law_word", "_law_found"] ["_law_words"] (defScope s_law_standard) := ⟨rfl, rfl, rfl, by decide +kernel, rfl, by decide +kernel, by decide +kernel⟩
theorem ok_law_standard {f : Addr} {fd : FuncData} {yy : Str} (Fn : Fun K "_law_standard" "_law_standard" s_law_standard f fd) (m : mg yy = some (.ref f)) (c__law_letters : DefOk P w K mg base 1 "_law_letters" ["_law_number"] (fdN 1 ff_law_letters)) (z_len : mg "len" = none) : DefOk P w K mg base 2 yy ["_law_words"] (fdN 1 ff_law_standard) := by
  exact DefOk.fnA Fn m (Fn.binds fun _ _ _ _ _ _ us hl => match us, hl with | [_], _ => rfl) sc_law_standard rfl rfl (fun cdv A outer s H E hr => by
    have hu := hr.units
    have nd := sc_law_standard.nd
    exact (db_cons (ds_set (i := 1) nd (de_dic0 true))
      (db_cons (ds_for PassesOwn.never rfl (di_seq (de_var (pv 0))) (dg_name (i := 2) nd) (db_one (ds_if (dt_cmp (op_eqA hu) sv_eq (de_sl (o := false) (de_var (pv 2)) do_none (do_some de_int)) de_str) (db_one (ds_setIx hu (de_callN c__law_letters (hr.mono (by decide)) (da_cons (de_callB call_lenA sc_len z_len (da_cons (de_var (pv 1)) da_nil)) da_nil)) (de_var (pv 1)) (de_sl (o := false) (de_var (pv 2)) (do_some de_int) do_none))) db_nil)))
      (db_cons (ds_set (i := 3) nd (de_tup da_nil))
      (db_cons (ds_for PassesOwn.never rfl (di_seq (de_var (pv 0))) (dg_name (i := 2) nd) (db_one (ds_if (dt_cmp (op_eqA hu) sv_eq (de_var (pv 2)) de_str) (db_one (ds_set (i := 3) nd (de_op op_addA (sv_add (o := false)) (de_var (pv 3)) (de_tup (da_cons (de_var (pv 2)) da_nil))))) (db_one (ds_set (i := 3) nd (de_op op_addA (sv_add (o := false)) (de_var (pv 3)) (de_if (dt_cmp (op_eqA hu) sv_eq (de_sl (o := false) (de_var (pv 2)) do_none (do_some de_int)) de_str) (de_tup (da_cons (de_op op_addA (sv_add (o := false)) de_str (de_ix hu (de_var (pv 1)) (de_sl (o := false) (de_var (pv 2)) (do_some de_int) do_none))) da_nil)) (de_tup (da_cons (de_ix hu (de_var (pv 1)) (de_var (pv 2))) da_nil)))))))))
      (db_one (ds_ret false (de_var (pv 3))))))))) sm_law_standard
abbrev s_is_integer : Stmt := topS 5
theorem sc_is_integer : FnScope ["thing"] ["thing"] (defScope s_is_integer) := ⟨rfl, rfl, rfl, by decide +kernel, rfl, by decide +kernel, by decide +kernel⟩
theorem ok_is_integer {f : Addr} {fd : FuncData} {yy : Str} (Fn : Fun K "is_integer" "is_integer" s_is_integer f fd) (m : mg yy = some (.ref f)) (z_isinstance : mg "isinstance" = none) (z_int : mg "int" = none) (z_bool : mg "bool" = none) : DefOk P w K mg base 1 yy ["thing"] (fdN 1 ff_is_integer) := by
  exact DefOk.fnA Fn m (Fn.binds fun _ _ _ _ _ _ us hl => match us, hl with | [_], _ => rfl) sc_is_integer rfl rfl (fun cdv A outer s H E hr => by
    have hu := hr.units
    have nd := sc_is_integer.nd
    exact (db_one (ds_ret false (de_and (de_callB call_isi sc_isi z_isinstance (da_cons (de_var (pv 0)) (da_cons (de_bltn (v := .ty "int") (u := .type "int") rfl z_int (by decide +kernel) rfl (fun _ _ => .ty _)) da_nil))) (de_one (de_not (de_callB call_isi sc_isi z_isinstance (da_cons (de_var (pv 0)) (da_cons (de_bltn (v := .ty "bool") (u := .type "bool") rfl z_bool (by decide +kernel) rfl (fun _ _ => .ty _)) da_nil))))))))) sm_is_integer
abbrev s_is_within : Stmt := topS 6
theorem sc_is_within : FnScope ["thing", "least", "most"] ["thing", "least", "most"] (defScope s_is_within) := ⟨rfl, rfl, rfl, by decide +kernel, rfl, by decide +kernel, by decide +kernel⟩
theorem ok_is_within {f : Addr} {fd : FuncData} {yy : Str} (Fn : Fun K "is_within" "is_within" s_is_within f fd) (m : mg yy = some (.ref f)) (c_is_integer : DefOk P w K mg base 1 "is_integer" ["thing"] (fdN 1 ff_is_integer)) : DefOk P w K mg base 2 yy ["thing", "least", "most"] (fdN 3 ff_is_within) := by
  exact DefOk.fnA Fn m (Fn.binds fun _ _ _ _ _ _ us hl => match us, hl with | [_, _, _], _ => rfl) sc_is_within rfl rfl (fun cdv A outer s H E hr => by
    have hu := hr.units
    have nd := sc_is_within.nd
    exact (db_one (ds_ret false (de_and (de_callN c_is_integer (hr.mono (by decide)) (da_cons (de_var (pv 0)) da_nil)) (de_one (de_chain op_leA sv_ord op_leA sv_ord (de_var (pv 1)) (de_var (pv 0)) (de_var (pv 2)))))))) sm_is_within
abbrev s_check_number : Stmt := topS 8
theorem sc_check_number : FnScope ["thing", "least", "most"] ["thing", "least", "most"] (defScope s_check_number) := ⟨rfl, rfl, rfl, by decide +kernel, rfl, by decide +kernel, by decide +kernel⟩
theorem ok_check_number {f : Addr} {fd : FuncData} {yy : Str} (Fn : Fun K "check_number" "check_number" s_check_number f fd) (m : mg yy = some (.ref f)) (c_is_within : DefOk P w K mg base 2 "is_within" ["thing", "least", "most"] (fdN 3 ff_is_within)) : DefOk P w K mg base 3 yy ["thing", "least", "most"] (fdN 3 ff_check_number) := by
  exact DefOk.fnA Fn m (Fn.binds fun _ _ _ _ _ _ us hl => match us, hl with | [_, _, _], _ => rfl) sc_check_number rfl rfl (fun cdv A outer s H E hr => by
    have hu := hr.units
    have nd := sc_check_number.nd
    exact (db_one (ds_if (dt_not (dt_tru (de_callN c_is_within (hr.mono (by decide)) (da_cons (de_var (pv 0)) (da_cons (de_var (pv 1)) (da_cons (de_var (pv 2)) da_nil)))))) (db_one ds_never) db_nil))) sm_check_number
abbrev s_check_counts : Stmt := topS 34
theorem sc_check_counts : FnScope ["size", "names"] ["size", "names"] (defScope s_check_counts) := ⟨rfl, rfl, rfl, by decide +kernel, rfl, by decide +kernel, by decide +kernel⟩
theorem ok_check_counts {f : Addr} {fd : FuncData} {yy : Str} (Fn : Fun K "check_counts" "check_counts" s_check_counts f fd) (m : mg yy = some (.ref f)) (c_check_number : DefOk P w K mg base 3 "check_number" ["thing", "least", "most"] (fdN 3 ff_check_number)) (m_MOST : ∃ t, mg "MOST" = some (.int 40 t)) : DefOk P w K mg base 4 yy ["size", "names"] (fdN 2 ff_check_counts) := by
  obtain ⟨t_MOST, m_MOST⟩ := m_MOST
  exact DefOk.fnA Fn m (Fn.binds fun _ _ _ _ _ _ us hl => match us, hl with | [_, _], _ => rfl) sc_check_counts rfl rfl (fun cdv A outer s H E hr => by
    have hu := hr.units
    have nd := sc_check_counts.nd
    exact (db_cons (ds_expr (de_callN c_check_number (hr.mono (by decide)) (da_cons (de_var (pv 0)) (da_cons de_int (da_cons (de_glob (v := .int 40) rfl m_MOST ⟨_, rfl⟩ (fun _ _ => .int _)) da_nil)))))
      (db_one (ds_expr (de_callN c_check_number (hr.mono (by decide)) (da_cons (de_var (pv 1)) (da_cons de_int (da_cons (de_glob (v := .int 40) rfl m_MOST ⟨_, rfl⟩ (fun _ _ => .int _)) da_nil)))))))) sm_check_counts
abbrev s_pairs : Stmt := topS 32
theorem sc_pairs : FnScope ["heads", "rows", "size", "names", "found", "first", "left", "right", "low", "few"] ["heads", "rows", "size", "names"] (defScope s_pairs) := ⟨rfl, rfl, rfl, by decide +kernel, rfl, by decide +kernel, by decide +kernel⟩
theorem ok_pairs {f : Addr} {fd : FuncData} (Fn : Fun K "pairs" "pairs" s_pairs f fd) (m : mg "pairs" = some (.ref f)) (z_range : mg "range" = none) (z_sum : mg "sum" = none) (z_min : mg "min" = none) (z_max : mg "max" = none) : DefOk P w K mg base 1 "pairs" ["heads", "rows", "size", "names"] fd_pairs := by
  exact .of Fn m (Fn.binds fun _ _ _ _ _ _ us hl => match us, hl with | [_, _, _, _], _ => rfl) sc_pairs len_pairs (fun cdv A outer s H E hr => by
    have hu := hr.units
    have nd := sc_pairs.nd
    exact (db_cons (ds_set (i := 4) nd de_int)
      (db_cons (ds_for PassesOwn.never rfl (di_range1 z_range (da_cons (de_var (pv 2)) da_nil)) (dg_name (i := 5) nd) (db_cons (ds_set (i := 6) nd (de_ix hu (de_var (pv 0)) (de_var (pv 5))))
      (db_cons (ds_set (i := 7) nd (de_ix hu (de_var (pv 1)) (de_op op_sub sv_sub (de_op op_sub sv_sub (de_var (pv 2)) de_int) (de_var (pv 5)))))
      (db_cons (ds_set (i := 8) nd (de_callB (call_max2 rfl) sc_max2 z_max (da_cons de_int (da_cons (de_op op_addA (sv_add (o := false)) (de_op op_sub sv_sub (de_var (pv 3)) (de_var (pv 2))) (de_var (pv 5))) da_nil))))
      (db_one (ds_aug (i := 4) nd op_iaddA sv_iadd (de_callB (cr_sum rfl) sc_sum z_sum (da_cons (de_lc false (own := [("few", 9)]) rfl nd (di_range2 z_range (da_cons (de_var (pv 8)) (da_cons (de_op op_addA (sv_add (o := false)) (de_callB (call_min2 rfl) sc_min2 z_min (da_cons (de_var (pv 3)) (da_cons (de_op op_addA (sv_add (o := false)) (de_var (pv 5)) de_int) da_nil))) de_int) da_nil))) (blkOk_by (N := ["heads", "rows", "size", "names", "found", "first", "left", "right", "low", "few"]) (sc := defScope s_pairs) (by decide +kernel)) (fun _ _ _ _ _ => (dc_name (i := 9) nd (by decide))) (fun _ _ _ _ _ => dp_nil) (fun _ _ _ _ _ => (de_op op_mulA (sv_mul (o := false)) (de_ix hu (de_var (pv 6)) (de_var (pv 9))) (de_ix hu (de_var (pv 7)) (de_op op_sub sv_sub (de_var (pv 3)) (de_var (pv 9))))))) da_nil))))))))
      (db_one (ds_ret false (de_var (pv 4))))))) rd_pairs
abbrev s_table : Stmt := topS 33
theorem sc_table : FnScope ["most", "rows", "size", "row", "names"] ["most"] (defScope s_table) := ⟨rfl, rfl, rfl, by decide +kernel, rfl, by decide +kernel, by decide +kernel⟩
theorem ok_table {f : Addr} {fd : FuncData} (Fn : Fun K "table" "table" s_table f fd) (m : mg "table" = some (.ref f)) (c_pairs : DefOk P w K mg base 1 "pairs" ["heads", "rows", "size", "names"] fd_pairs) (z_range : mg "range" = none) (z_int : mg "int" = none) : DefOk P w K mg base 2 "table" ["most"] (fdN 1 ff_table) := by
  exact .of Fn m (Fn.binds fun _ _ _ _ _ _ us hl => match us, hl with | [_], _ => rfl) sc_table fdN_len (fun cdv A outer s H E hr => by
    have hu := hr.units
    have nd := sc_table.nd
    exact (db_cons (ds_set (i := 1) nd (de_lst true da_nil))
      (db_cons (ds_for PassesOwn.never rfl (di_range1 z_range (da_cons (de_op op_addA (sv_add (o := false)) (de_var (pv 0)) de_int) da_nil)) (dg_name (i := 2) nd) (db_cons (ds_set (i := 3) nd (de_op op_mulA (sv_mul (o := true)) (de_lst false (da_cons de_int da_nil)) (de_op op_addA (sv_add (o := false)) (de_var (pv 2)) de_int)))
      (db_cons (ds_for PassesOwn.never rfl (di_range3 z_range (da_cons (de_op op_addA (sv_add (o := false)) (de_var (pv 2)) de_int) (da_cons (de_un un_neg sv_neg de_int) (da_cons (de_un un_neg sv_neg de_int) da_nil)))) (dg_name (i := 4) nd) (db_one (ds_setIx hu (de_op op_addA (sv_add (o := false)) (de_op op_addA (sv_add (o := false)) (de_op op_mulA (sv_mul (o := false)) (de_op op_addA (sv_add (o := false)) (de_var (pv 4)) de_int) (de_ix hu (de_var (pv 3)) (de_op op_addA (sv_add (o := false)) (de_var (pv 4)) de_int))) (de_callD c_pairs (hr.mono (by decide)) [0] (da_cons (de_var (pv 1)) (da_cons (de_var (pv 1)) (da_cons (de_var (pv 2)) (da_cons (de_var (pv 4)) da_nil)))))) (de_callTy call_int1 sc_int z_int (da_cons (de_and (de_cmp (op_eqA hu) sv_eq (de_var (pv 2)) de_int) (de_one (de_cmp (op_eqA hu) sv_eq (de_var (pv 4)) de_int))) da_nil))) (de_var (pv 3)) (de_var (pv 4)))))
      (db_frz 3 (db_one (ds_expr (de_app (de_var (pv 1)) (de_var (pv 3)))))))))
      (db_one (ds_ret true (de_var (pv 1))))))) rd_table
abbrev s_factorial_of : Stmt := topS 30
theorem sc_factorial_of : FnScope ["number", "found", "factor"] ["number"] (defScope s_factorial_of) := ⟨rfl, rfl, rfl, by decide +kernel, rfl, by decide +kernel, by decide +kernel⟩
theorem ok_factorial_of {f : Addr} {fd : FuncData} {yy : Str} (Fn : Fun K "factorial_of" "factorial_of" s_factorial_of f fd) (m : mg yy = some (.ref f)) (z_range : mg "range" = none) : DefOk P w K mg base 1 yy ["number"] (fdN 1 ff_factorial_of) := by
  exact DefOk.fnA Fn m (Fn.binds fun _ _ _ _ _ _ us hl => match us, hl with | [_], _ => rfl) sc_factorial_of rfl rfl (fun cdv A outer s H E hr => by
    have hu := hr.units
    have nd := sc_factorial_of.nd
    exact (db_cons (ds_set (i := 1) nd de_int)
      (db_cons (ds_for PassesOwn.never rfl (di_range2 z_range (da_cons de_int (da_cons (de_op op_addA (sv_add (o := false)) (de_var (pv 0)) de_int) da_nil))) (dg_name (i := 2) nd) (db_one (ds_set (i := 1) nd (de_op op_mulA (sv_mul (o := false)) (de_var (pv 1)) (de_var (pv 2))))))
      (db_one (ds_ret false (de_var (pv 1))))))) sm_factorial_of
abbrev s_many : Stmt := topS 35
theorem sc_many : FnScope ["size", "names"] ["size", "names"] (defScope s_many) := ⟨rfl, rfl, rfl, by decide +kernel, rfl, by decide +kernel, by decide +kernel⟩
theorem ok_many {f : Addr} {fd : FuncData} {yy : Str} (Fn : Fun K "many" "many" s_many f fd) (m : mg yy = some (.ref f)) (c_check_counts : DefOk P w K mg base 4 "check_counts" ["size", "names"] (fdN 2 ff_check_counts)) (c_table : DefOk P w K mg base 2 "table" ["most"] (fdN 1 ff_table)) (c_factorial_of : DefOk P w K mg base 1 "factorial_of" ["number"] (fdN 1 ff_factorial_of)) : DefOk P w K mg base 5 yy ["size", "names"] (fdN 2 ff_many) := by
  exact DefOk.fnA Fn m (Fn.binds fun _ _ _ _ _ _ us hl => match us, hl with | [_, _], _ => rfl) sc_many rfl rfl (fun cdv A outer s H E hr => by
    have hu := hr.units
    have nd := sc_many.nd
    exact (db_cons (ds_expr (de_callN c_check_counts (hr.mono (by decide)) (da_cons (de_var (pv 0)) (da_cons (de_var (pv 1)) da_nil))))
      (db_one (ds_ret false (de_if (dt_cmp op_leA sv_ord (de_var (pv 1)) (de_op op_addA (sv_add (o := false)) (de_var (pv 0)) de_int)) (de_op op_mulA (sv_mul (o := false)) (de_ix hu (de_ix hu (de_callN c_table (hr.mono (by decide)) (da_cons (de_var (pv 0)) da_nil)) (de_var (pv 0))) (de_var (pv 1))) (de_callN c_factorial_of (hr.mono (by decide)) (da_cons (de_var (pv 1)) da_nil))) de_int))))) sm_many
abbrev s_labelled : Stmt := topS 36
theorem sc_labelled : FnScope ["most", "row", "names", "number"] ["most"] (defScope s_labelled) := ⟨rfl, rfl, rfl, by decide +kernel, rfl, by decide +kernel, by decide +kernel⟩
theorem ok_labelled {f : Addr} {fd : FuncData} {yy : Str} (Fn : Fun K "labelled" "labelled" s_labelled f fd) (m : mg yy = some (.ref f)) (c_table : DefOk P w K mg base 2 "table" ["most"] (fdN 1 ff_table)) (c_factorial_of : DefOk P w K mg base 1 "factorial_of" ["number"] (fdN 1 ff_factorial_of)) (z_enumerate : mg "enumerate" = none) : DefOk P w K mg base 3 yy ["most"] (fdN 1 ff_labelled) := by
  exact DefOk.fnA Fn m (Fn.binds fun _ _ _ _ _ _ us hl => match us, hl with | [_], _ => rfl) sc_labelled rfl rfl (fun cdv A outer s H E hr => by
    have hu := hr.units
    have nd := sc_labelled.nd
    exact (db_one (ds_ret false (de_lc false (own := [("row", 1)]) rfl nd (di_seq (de_callN c_table (hr.mono (by decide)) (da_cons (de_var (pv 0)) da_nil))) (blkOk_by (N := ["most", "row", "names", "number"]) (sc := defScope s_labelled) (by decide +kernel)) (fun _ _ _ _ _ => (dc_name (i := 1) nd (by decide))) (fun _ _ _ _ _ => dp_nil) (fun _ _ _ _ _ => (de_lc false (own := [("names", 2), ("number", 3)]) rfl nd (di_enum z_enumerate (da_cons (de_var (pv 1)) da_nil)) (by refine blkOk_by ?_; show blkC ["most", "row", "names", "number"] _ _ _ = true; kernel_rfl) (fun _ _ _ _ _ => (dc_tup rfl (dcs_cons (dc_name (i := 2) nd (by decide)) (dcs_cons (dc_name (i := 3) nd (by decide)) dcs_nil)))) (fun _ _ _ _ _ => dp_nil) (fun _ _ _ _ _ => (de_op op_mulA (sv_mul (o := false)) (de_var (pv 3)) (de_callN c_factorial_of (hr.mono (by decide)) (da_cons (de_var (pv 2)) da_nil)))))))))) sm_labelled
abbrev s_letters_name : Stmt := topS 26
theorem sc_letters_name : FnScope ["number", "found", "left"] ["number"] (defScope s_letters_name) := ⟨rfl, rfl, rfl, by decide +kernel, rfl, by decide +kernel, by decide +kernel⟩
theorem ok_letters_name {f : Addr} {fd : FuncData} {yy : Str} (Fn : Fun K "letters_name" "letters_name" s_letters_name f fd) (m : mg yy = some (.ref f)) (m_LETTERS : ∃ t, mg "LETTERS" = some (.str "abcdefghijklmnopqrstuvwxyz" t)) : DefOk P w K mg base 1 yy ["number"] (fdN 1 ff_letters_name) := by
  obtain ⟨t_LETTERS, m_LETTERS⟩ := m_LETTERS
  exact DefOk.fnA Fn m (Fn.binds fun _ _ _ _ _ _ us hl => match us, hl with | [_], _ => rfl) sc_letters_name rfl rfl (fun cdv A outer s H E hr => by
    have hu := hr.units
    have nd := sc_letters_name.nd
    exact (db_cons (ds_set (i := 1) nd de_str)
      (db_cons (ds_set (i := 2) nd (de_op op_addA (sv_add (o := false)) (de_var (pv 0)) de_int))
      (db_cons (ds_while PassesOwn.never (dt_cmp op_gtA sv_ord (de_var (pv 2)) de_int) (db_cons (ds_aug (i := 2) nd iop_sub sv_sub de_int)
      (db_cons (ds_set (i := 1) nd (de_op op_addA (sv_add (o := false)) (de_ix hu (de_glob (v := .str "abcdefghijklmnopqrstuvwxyz") rfl m_LETTERS ⟨_, rfl⟩ (fun _ _ => .str _)) (de_op op_mod sv_mod (de_var (pv 2)) de_int)) (de_var (pv 1))))
      (db_one (ds_set (i := 2) nd (de_op op_fdivW sv_div (de_var (pv 2)) de_int))))))
      (db_one (ds_ret false (de_var (pv 1)))))))) sm_letters_name
abbrev s_is_take : Stmt := topS 12
theorem sc_is_take : FnScope ["word"] ["word"] (defScope s_is_take) := ⟨rfl, rfl, rfl, by decide +kernel, rfl, by decide +kernel, by decide +kernel⟩
theorem ok_is_take {f : Addr} {fd : FuncData} {yy : Str} (Fn : Fun K "is_take" "is_take" s_is_take f fd) (m : mg yy = some (.ref f))  : DefOk P w K mg base 1 yy ["word"] (fdN 1 ff_is_take) := by
  exact DefOk.fnA Fn m (Fn.binds fun _ _ _ _ _ _ us hl => match us, hl with | [_], _ => rfl) sc_is_take rfl rfl (fun cdv A outer s H E hr => by
    have hu := hr.units
    have nd := sc_is_take.nd
    exact (db_one (ds_ret false (de_cmp (op_eqA hu) sv_eq (de_sl (o := false) (de_var (pv 0)) do_none (do_some de_int)) de_str)))) sm_is_take
abbrev s_choose : Stmt := topS 31
theorem sc_choose : FnScope ["many", "few", "found", "turn"] ["many", "few"] (defScope s_choose) := ⟨rfl, rfl, rfl, by decide +kernel, rfl, by decide +kernel, by decide +kernel⟩
theorem ok_choose {f : Addr} {fd : FuncData} {yy : Str} (Fn : Fun K "choose" "choose" s_choose f fd) (m : mg yy = some (.ref f)) (z_range : mg "range" = none) : DefOk P w K mg base 1 yy ["many", "few"] (fdN 2 ff_choose) := by
  exact DefOk.fnA Fn m (Fn.binds fun _ _ _ _ _ _ us hl => match us, hl with | [_, _], _ => rfl) sc_choose rfl rfl (fun cdv A outer s H E hr => by
    have hu := hr.units
    have nd := sc_choose.nd
    exact (db_cons (ds_set (i := 2) nd de_int)
      (db_cons (ds_for PassesOwn.never rfl (di_range1 z_range (da_cons (de_var (pv 1)) da_nil)) (dg_name (i := 3) nd) (db_one (ds_set (i := 2) nd (de_op op_fdivW sv_div (de_op op_mulA (sv_mul (o := false)) (de_var (pv 2)) (de_op op_sub sv_sub (de_var (pv 0)) (de_var (pv 3)))) (de_op op_addA (sv_add (o := false)) (de_var (pv 3)) de_int)))))
      (db_one (ds_ret false (de_var (pv 2))))))) sm_choose
abbrev s_weight : Stmt := topS 37
theorem sc_weight : FnScope ["rows", "size", "names", "first", "few"] ["rows", "size", "names", "first", "few"] (defScope s_weight) := ⟨rfl, rfl, rfl, by decide +kernel, rfl, by decide +kernel, by decide +kernel⟩
theorem ok_weight {f : Addr} {fd : FuncData} {yy : Str} (Fn : Fun K "weight" "weight" s_weight f fd) (m : mg yy = some (.ref f))  : DefOk P w K mg base 1 yy ["rows", "size", "names", "first", "few"] (fdN 5 ff_weight) := by
  exact DefOk.fnA Fn m (Fn.binds fun _ _ _ _ _ _ us hl => match us, hl with | [_, _, _, _, _], _ => rfl) sc_weight rfl rfl (fun cdv A outer s H E hr => by
    have hu := hr.units
    have nd := sc_weight.nd
    exact (db_cons (ds_if (DWx.dt (dw_or (dt_cmp op_gtA sv_ord (de_var (pv 4)) (de_op op_addA (sv_add (o := false)) (de_var (pv 3)) de_int)) (dw_or1 (dt_cmp op_gtA sv_ord (de_op op_sub sv_sub (de_var (pv 2)) (de_var (pv 4))) (de_op op_sub sv_sub (de_var (pv 1)) (de_var (pv 3))))))) (db_one (ds_ret false de_int)) db_nil)
      (db_one (ds_ret false (de_op op_mulA (sv_mul (o := false)) (de_ix hu (de_ix hu (de_var (pv 0)) (de_var (pv 3))) (de_var (pv 4))) (de_ix hu (de_ix hu (de_var (pv 0)) (de_op op_sub sv_sub (de_op op_sub sv_sub (de_var (pv 1)) de_int) (de_var (pv 3)))) (de_op op_sub sv_sub (de_var (pv 2)) (de_var (pv 4))))))))) sm_weight
abbrev s_extending : Stmt := topS 38
theorem sc_extending : FnScope ["rows", "size", "names", "first", "few", "least", "left", "more"] ["rows", "size", "names", "first", "few", "least"] (defScope s_extending) := ⟨rfl, rfl, rfl, by decide +kernel, rfl, by decide +kernel, by decide +kernel⟩
theorem ok_extending {f : Addr} {fd : FuncData} {yy : Str} (Fn : Fun K "extending" "extending" s_extending f fd) (m : mg yy = some (.ref f)) (c_choose : DefOk P w K mg base 1 "choose" ["many", "few"] (fdN 2 ff_choose)) (c_weight : DefOk P w K mg base 1 "weight" ["rows", "size", "names", "first", "few"] (fdN 5 ff_weight)) (z_sum : mg "sum" = none) (z_range : mg "range" = none) : DefOk P w K mg base 2 yy ["rows", "size", "names", "first", "few", "least"] (fdN 6 ff_extending) := by
  exact DefOk.fnA Fn m (Fn.binds fun _ _ _ _ _ _ us hl => match us, hl with | [_, _, _, _, _, _], _ => rfl) sc_extending rfl rfl (fun cdv A outer s H E hr => by
    have hu := hr.units
    have nd := sc_extending.nd
    exact (db_cons (ds_set (i := 6) nd (de_op op_sub sv_sub (de_var (pv 2)) (de_var (pv 5))))
      (db_one (ds_ret false (de_callB (cr_sum rfl) sc_sum z_sum (da_cons (de_lc false (own := [("more", 7)]) rfl nd (di_range1 z_range (da_cons (de_op op_addA (sv_add (o := false)) (de_var (pv 6)) de_int) da_nil)) (blkOk_by (N := ["rows", "size", "names", "first", "few", "least", "left", "more"]) (sc := defScope s_extending) (by decide +kernel)) (fun _ _ _ _ _ => (dc_name (i := 7) nd (by decide))) (fun _ _ _ _ _ => dp_nil) (fun _ _ _ _ _ => (de_op op_mulA (sv_mul (o := false)) (de_callN c_choose (hr.mono (by decide)) (da_cons (de_var (pv 6)) (da_cons (de_var (pv 7)) da_nil))) (de_callN c_weight (hr.mono (by decide)) (da_cons (de_var (pv 0)) (da_cons (de_var (pv 1)) (da_cons (de_var (pv 2)) (da_cons (de_var (pv 3)) (da_cons (de_op op_addA (sv_add (o := false)) (de_var (pv 4)) (de_var (pv 7))) da_nil))))))))) da_nil)))))) sm_extending
abbrev s_pick : Stmt := topS 39
theorem sc_pick : FnScope ["rows", "size", "names", "number", "first", "block", "ages", "least"] ["rows", "size", "names", "number"] (defScope s_pick) := ⟨rfl, rfl, rfl, by decide +kernel, rfl, by decide +kernel, by decide +kernel⟩
theorem ok_pick {f : Addr} {fd : FuncData} {yy : Str} (Fn : Fun K "pick" "pick" s_pick f fd) (m : mg yy = some (.ref f)) (c_extending : DefOk P w K mg base 2 "extending" ["rows", "size", "names", "first", "few", "least"] (fdN 6 ff_extending)) (c_weight : DefOk P w K mg base 1 "weight" ["rows", "size", "names", "first", "few"] (fdN 5 ff_weight)) (z_len : mg "len" = none) : DefOk P w K mg base 3 yy ["rows", "size", "names", "number"] (fdN 4 ff_pick) := by
  exact DefOk.fnA Fn m (Fn.binds fun _ _ _ _ _ _ us hl => match us, hl with | [_, _, _, _], _ => rfl) sc_pick rfl rfl (fun cdv A outer s H E hr => by
    have hu := hr.units
    have nd := sc_pick.nd
    exact (db_cons (ds_set (i := 4) nd de_int)
      (db_cons (ds_set (i := 5) nd (de_callN c_extending (hr.mono (by decide)) (da_cons (de_var (pv 0)) (da_cons (de_var (pv 1)) (da_cons (de_var (pv 2)) (da_cons (de_var (pv 4)) (da_cons de_int (da_cons de_int da_nil))))))))
      (db_cons (ds_while PassesOwn.never (dt_cmp op_geA sv_ord (de_var (pv 3)) (de_var (pv 5))) (db_cons (ds_aug (i := 3) nd iop_sub sv_sub (de_var (pv 5)))
      (db_cons (ds_aug (i := 4) nd op_iaddA sv_iadd de_int)
      (db_one (ds_set (i := 5) nd (de_callN c_extending (hr.mono (by decide)) (da_cons (de_var (pv 0)) (da_cons (de_var (pv 1)) (da_cons (de_var (pv 2)) (da_cons (de_var (pv 4)) (da_cons de_int (da_cons de_int da_nil))))))))))))
      (db_cons (ds_set (i := 6) nd (de_lst true da_nil))
      (db_cons (ds_set (i := 7) nd de_int)
      (db_cons (ds_while PassesOwn.never (dt_cmp op_geA sv_ord (de_var (pv 3)) (de_callN c_weight (hr.mono (by decide)) (da_cons (de_var (pv 0)) (da_cons (de_var (pv 1)) (da_cons (de_var (pv 2)) (da_cons (de_var (pv 4)) (da_cons (de_callB call_lenA sc_len z_len (da_cons (de_var (pv 6)) da_nil)) da_nil))))))) (db_cons (ds_aug (i := 3) nd iop_sub sv_sub (de_callN c_weight (hr.mono (by decide)) (da_cons (de_var (pv 0)) (da_cons (de_var (pv 1)) (da_cons (de_var (pv 2)) (da_cons (de_var (pv 4)) (da_cons (de_callB call_lenA sc_len z_len (da_cons (de_var (pv 6)) da_nil)) da_nil)))))))
      (db_cons (ds_set (i := 5) nd (de_callN c_extending (hr.mono (by decide)) (da_cons (de_var (pv 0)) (da_cons (de_var (pv 1)) (da_cons (de_var (pv 2)) (da_cons (de_var (pv 4)) (da_cons (de_op op_addA (sv_add (o := false)) (de_callB call_lenA sc_len z_len (da_cons (de_var (pv 6)) da_nil)) de_int) (da_cons (de_op op_addA (sv_add (o := false)) (de_var (pv 7)) de_int) da_nil))))))))
      (db_cons (ds_while PassesOwn.never (dt_cmp op_geA sv_ord (de_var (pv 3)) (de_var (pv 5))) (db_cons (ds_aug (i := 3) nd iop_sub sv_sub (de_var (pv 5)))
      (db_cons (ds_aug (i := 7) nd op_iaddA sv_iadd de_int)
      (db_one (ds_set (i := 5) nd (de_callN c_extending (hr.mono (by decide)) (da_cons (de_var (pv 0)) (da_cons (de_var (pv 1)) (da_cons (de_var (pv 2)) (da_cons (de_var (pv 4)) (da_cons (de_op op_addA (sv_add (o := false)) (de_callB call_lenA sc_len z_len (da_cons (de_var (pv 6)) da_nil)) de_int) (da_cons (de_op op_addA (sv_add (o := false)) (de_var (pv 7)) de_int) da_nil))))))))))))
      (db_cons (ds_expr (de_app (de_var (pv 6)) (de_var (pv 7))))
      (db_one (ds_aug (i := 7) nd op_iaddA sv_iadd de_int)))))))
      (db_frz 6 (db_one (ds_ret false (de_tup (da_cons (de_var (pv 4)) (da_cons (de_var (pv 6)) (da_cons (de_var (pv 3)) da_nil)))))))))))))) sm_pick
abbrev s_build : Stmt := topS 40
theorem sc_build : FnScope ["rows", "size", "names", "number", "words", "right", "others", "name", "first", "ages", "age", "word"] ["rows", "size", "names", "number", "words"] (defScope s_build) := ⟨rfl, rfl, rfl, by decide +kernel, rfl, by decide +kernel, by decide +kernel⟩
theorem ok_build {f : Addr} {fd : FuncData} (Fn : Fun K "build" "build" s_build f fd) (m : mg "build" = some (.ref f)) (c_letters_name : DefOk P w K mg base 1 "letters_name" ["number"] (fdN 1 ff_letters_name)) (c_is_take : DefOk P w K mg base 1 "is_take" ["word"] (fdN 1 ff_is_take)) (c_pick : DefOk P w K mg base 3 "pick" ["rows", "size", "names", "number"] (fdN 4 ff_pick)) (z_len : mg "len" = none) (z_enumerate : mg "enumerate" = none) : DefOk P w K mg base 103 "build" ["rows", "size", "names", "number", "words"] (fdN 5 ff_build) := by
  exact DefOk.rec (k := 3) Fn m (Fn.binds fun _ _ _ _ _ _ us hl => match us, hl with | [_, _, _, _, _], _ => rfl) sc_build rfl rfl (fun ff j c_rec cdv A outer s H E hr => by
    have hu := hr.units
    have nd := sc_build.nd
    exact (db_cons (ds_while PassesOwn.never (dt_cmp op_ltA sv_ord (de_var (pv 3)) (de_ix hu (de_ix hu (de_var (pv 0)) (de_var (pv 1))) (de_op op_addA (sv_add (o := false)) (de_callB call_lenA sc_len z_len (da_cons (de_var (pv 2)) da_nil)) de_int))) (db_cons (ds_set (i := 7) nd (de_callN c_letters_name (hr.mono (by omega)) (da_cons (de_callB call_lenA sc_len z_len (da_cons (de_lc false (own := [("word", 11)]) rfl nd (di_seqM (de_var (pv 4))) (blkOk_by (N := ["rows", "size", "names", "number", "words", "right", "others", "name", "first", "ages", "age", "word"]) (sc := defScope s_build) (by decide +kernel)) (fun _ _ _ _ _ => (dc_name (i := 11) nd (by decide))) (fun _ _ _ _ _ => (dp_one (dt_tru (de_callN c_is_take (hr.mono (by omega)) (da_cons (de_var (pv 11)) da_nil))))) (fun _ _ _ _ _ => (de_var (pv 11)))) da_nil)) da_nil)))
      (db_cons (ds_expr (de_app (de_var (pv 4)) (de_op op_addA (sv_add (o := false)) de_str (de_var (pv 7)))))
      (db_one (ds_set (i := 2) nd (de_op op_addA (sv_add (o := false)) (de_var (pv 2)) (de_lst false (da_cons (de_var (pv 7)) da_nil))))))))
      (db_cons (ds_if (dt_cmp (op_eqA hu) sv_eq (de_var (pv 1)) de_int) (db_cons (ds_expr (de_app (de_var (pv 4)) (de_ix hu (de_var (pv 2)) de_int)))
      (db_one ds_retN)) db_nil)
      (db_cons (ds_aug (i := 3) nd iop_sub sv_sub (de_ix hu (de_ix hu (de_var (pv 0)) (de_var (pv 1))) (de_op op_addA (sv_add (o := false)) (de_callB call_lenA sc_len z_len (da_cons (de_var (pv 2)) da_nil)) de_int)))
      (db_cons (ds_asg (de_callN c_pick (hr.mono (by omega)) (da_cons (de_var (pv 0)) (da_cons (de_var (pv 1)) (da_cons (de_callB call_lenA sc_len z_len (da_cons (de_var (pv 2)) da_nil)) (da_cons (de_var (pv 3)) da_nil))))) (dg_tup rfl (dgs_cons (dg_name (i := 8) nd) (dgs_cons (dg_name (i := 9) nd) (dgs_cons (dg_name (i := 3) nd) dgs_nil)))))
      (db_cons (ds_expr (de_app (de_var (pv 4)) de_str))
      (db_cons (ds_set (i := 5) nd (de_ix hu (de_ix hu (de_var (pv 0)) (de_op op_sub sv_sub (de_op op_sub sv_sub (de_var (pv 1)) de_int) (de_var (pv 8)))) (de_op op_sub sv_sub (de_callB call_lenA sc_len z_len (da_cons (de_var (pv 2)) da_nil)) (de_callB call_lenA sc_len z_len (da_cons (de_var (pv 9)) da_nil)))))
      (db_cons (ds_expr (de_callN c_rec (hr.mono (Nat.le_refl _)) (da_cons (de_var (pv 0)) (da_cons (de_var (pv 8)) (da_cons (de_lc false (own := [("age", 10)]) rfl nd (di_seq (de_var (pv 9))) (blkOk_by (N := ["rows", "size", "names", "number", "words", "right", "others", "name", "first", "ages", "age", "word"]) (sc := defScope s_build) (by decide +kernel)) (fun _ _ _ _ _ => (dc_name (i := 10) nd (by decide))) (fun _ _ _ _ _ => dp_nil) (fun _ _ _ _ _ => (de_ix hu (de_var (pv 2)) (de_var (pv 10))))) (da_cons (de_op op_fdivW sv_div (de_var (pv 3)) (de_var (pv 5))) (da_cons (de_var (pv 4)) da_nil)))))))
      (db_cons (ds_setLc (i := 6) false (own := [("age", 10), ("name", 7)]) rfl nd (di_enum z_enumerate (da_cons (de_var (pv 2)) da_nil)) (blkOk_by (N := ["rows", "size", "names", "number", "words", "right", "others", "name", "first", "ages", "age", "word"]) (sc := defScope s_build) (by decide +kernel)) (fun _ _ _ _ _ => (dc_tup rfl (dcs_cons (dc_name (i := 10) nd (by decide)) (dcs_cons (dc_name (i := 7) nd (by decide)) dcs_nil)))) (fun _ _ _ _ _ => (dp_one (dt_cmp (op_notInA hu) (sv_in (n := true)) (de_var (pv 10)) (de_var (pv 9))))) (fun _ _ _ _ _ => (de_var (pv 7))))
      (db_one (ds_expr (de_callN c_rec (hr.mono (Nat.le_refl _)) (da_cons (de_var (pv 0)) (da_cons (de_op op_sub sv_sub (de_op op_sub sv_sub (de_var (pv 1)) de_int) (de_var (pv 8))) (da_cons (de_var (pv 6)) (da_cons (de_op op_mod sv_mod (de_var (pv 3)) (de_var (pv 5))) (da_cons (de_var (pv 4)) da_nil))))))))))))))))) sm_build 100
abbrev s_raw_program_at : Stmt := topS 41
theorem sc_raw_program_at : FnScope ["rows", "size", "number", "words"] ["rows", "size", "number"] (defScope s_raw_program_at) := ⟨rfl, rfl, rfl, by decide +kernel, rfl, by decide +kernel, by decide +kernel⟩
theorem ok_raw_program_at {f : Addr} {fd : FuncData} {yy : Str} (Fn : Fun K "raw_program_at" "raw_program_at" s_raw_program_at f fd) (m : mg yy = some (.ref f)) (c_build : DefOk P w K mg base 103 "build" ["rows", "size", "names", "number", "words"] (fdN 5 ff_build)) (z_tuple : mg "tuple" = none) : DefOk P w K mg base 104 yy ["rows", "size", "number"] (fdN 3 ff_raw_program_at) := by
  exact DefOk.fnA Fn m (Fn.binds fun _ _ _ _ _ _ us hl => match us, hl with | [_, _, _], _ => rfl) sc_raw_program_at rfl rfl (fun cdv A outer s H E hr => by
    have hu := hr.units
    have nd := sc_raw_program_at.nd
    exact (db_cons (ds_set (i := 3) nd (de_lst true da_nil))
      (db_cons (ds_expr (de_callN c_build (hr.mono (by decide)) (da_cons (de_var (pv 0)) (da_cons (de_var (pv 1)) (da_cons (de_lst false da_nil) (da_cons (de_var (pv 2)) (da_cons (de_var (pv 3)) da_nil)))))))
      (db_one (ds_ret false (de_callTy call_tuple_of sc_tuple z_tuple (da_cons (de_var (pv 3)) da_nil))))))) sm_raw_program_at
abbrev s_RawProgram_init : Stmt := inClass (topS 23) 0
theorem sc_RawProgram_init : FnScope ["self", "words"] ["self", "words"] (defScope s_RawProgram_init) := ⟨rfl, rfl, rfl, by decide +kernel, rfl, by decide +kernel, by decide +kernel⟩
theorem ok_RawProgram_init {f : Addr} {fd : FuncData} {c : Cs} (Fn : Fun K "__init__" "RawProgram.__init__" s_RawProgram_init f fd) (z_tuple : mg "tuple" = none) (hF_words : ∀ C, c.P C → Cls K C ∧ NoAttr K C "words") : FnOk P w K mg base CX0 1 f fd ["self", "words"] (spD K (fdN 2 (ff_RawProgram_init c))) := by
  exact fn_fn Fn sc_RawProgram_init rfl rfl (fun cdv A outer s H E hr => by
    have hu := hr.units
    have nd := sc_RawProgram_init.nd
    exact (db_one (ds_setF hF_words (de_callTy call_tuple_of sc_tuple z_tuple (da_cons (de_var (pv 1)) da_nil)) (de_var (pv 0))))) sm_RawProgram_init
abbrev s_programs : Stmt := topS 42
theorem sc_programs : FnScope ["size", "rows", "number"] ["size"] (defScope s_programs) := ⟨rfl, rfl, rfl, by decide +kernel, rfl, by decide +kernel, by decide +kernel⟩
theorem ok_programs {f : Addr} {fd : FuncData} {yy : Str} {c : Cs} (Fn : Fun K "programs" "programs" s_programs f fd) (m : mg yy = some (.ref f)) (c_check_number : DefOk P w K mg base 3 "check_number" ["thing", "least", "most"] (fdN 3 ff_check_number)) (c_labelled : DefOk P w K mg base 3 "labelled" ["most"] (fdN 1 ff_labelled)) (c_raw_program_at : DefOk P w K mg base 104 "raw_program_at" ["rows", "size", "number"] (fdN 3 ff_raw_program_at)) (m_MOST_LISTED : ∃ t, mg "MOST_LISTED" = some (.int 3 t)) (z_range : mg "range" = none) (k_RawProgram : MkOk P w K mg base 1 "RawProgram" c.RawProgram ["self", "words"] (fdN 2 (ff_RawProgram_init c))) : DefOk P w K mg base 105 yy ["size"] (fdN 1 (ff_programs c)) := by
  obtain ⟨t_MOST_LISTED, m_MOST_LISTED⟩ := m_MOST_LISTED
  exact DefOk.fnA Fn m (Fn.binds fun _ _ _ _ _ _ us hl => match us, hl with | [_], _ => rfl) sc_programs rfl rfl (fun cdv A outer s H E hr => by
    have hu := hr.units
    have nd := sc_programs.nd
    exact (db_cons (ds_expr (de_callN c_check_number (hr.mono (by decide)) (da_cons (de_var (pv 0)) (da_cons de_int (da_cons (de_glob (v := .int 3) rfl m_MOST_LISTED ⟨_, rfl⟩ (fun _ _ => .int _)) da_nil)))))
      (db_cons (ds_set (i := 1) nd (de_callN c_labelled (hr.mono (by decide)) (da_cons (de_var (pv 0)) da_nil)))
      (db_one (ds_ret false (de_lc true (own := [("number", 2)]) rfl nd (di_range1 z_range (da_cons (de_ix hu (de_ix hu (de_var (pv 1)) (de_var (pv 0))) de_int) da_nil)) (blkOk_by (N := ["size", "rows", "number"]) (sc := defScope s_programs) (by decide +kernel)) (fun _ _ _ _ _ => (dc_name (i := 2) nd (by decide))) (fun _ _ _ _ _ => dp_nil) (fun _ _ _ _ _ => (de_make k_RawProgram (hr.mono (by decide)) [] false (da_cons (de_callN c_raw_program_at (hr.mono (by decide)) (da_cons (de_var (pv 1)) (da_cons (de_var (pv 0)) (da_cons (de_var (pv 2)) da_nil)))) da_nil))))))))) sm_programs
abbrev s_law_is_words : Stmt := topS 51
theorem sc_law_is_words : FnScope ["_law_thing", "_law_due"] ["_law_thing", "_law_due"] (defScope s_law_is_words) := ⟨rfl, rfl, rfl, by decide +kernel, rfl, by decide +kernel, by decide +kernel⟩
theorem ok_law_is_words {f : Addr} {fd : FuncData} {yy : Str} {c : Cs} (Fn : Fun K "_law_is_words" "_law_is_words" s_law_is_words f fd) (m : mg yy = some (.ref f)) (m_Program : mg "Program" = some (.ref c.Program)) (z_isinstance : mg "isinstance" = none) (z_tuple : mg "tuple" = none) (hF_words : ∀ C, c.P C → Cls K C ∧ NoAttr K C "words") (hI : IsiOk K c.rel) : DefOk P w K mg base 1 yy ["_law_thing", "_law_due"] (fdN 2 (ff_law_is_words c)) := by
  exact DefOk.fnA Fn m (Fn.binds fun _ _ _ _ _ _ us hl => match us, hl with | [_, _], _ => rfl) sc_law_is_words rfl rfl (fun cdv A outer s H E hr => by
    have hu := hr.units
    have nd := sc_law_is_words.nd
    exact (db_one (ds_ret false (de_and (de_callB call_isi (sc_isiO hI) z_isinstance (da_cons (de_var (pv 0)) (da_cons (de_glob (v := .ref c.Program) (d := .cls c.Program) rfl m_Program rfl (fun _ _ => .cls _)) da_nil))) (de_and (de_callB call_isi sc_isi z_isinstance (da_cons (de_fld hF_words (de_var (pv 0))) (da_cons (de_bltn (v := .ty "tuple") (u := .type "tuple") rfl z_tuple (by decide +kernel) rfl (fun _ _ => .ty _)) da_nil))) (de_one (de_cmp (op_eqA hu) sv_eq (de_fld hF_words (de_var (pv 0))) (de_var (pv 1))))))))) sm_law_is_words
abbrev s_law : Stmt := topS 52
theorem sc_law : FnScope ["_law_script", "_law_pot_here", "_law_size", "_law_due", "_law_again", "_law_told", "_law_at", "_law_words"] ["_law_script"] (defScope s_law) := ⟨rfl, rfl, rfl, by decide +kernel, rfl, by decide +kernel, by decide +kernel⟩
theorem ok_law {f : Addr} {fd : FuncData} {c : Cs} (Fn : Fun K "law" "law" s_law f fd) (c__law_pot : DefOk P w K mg base 1 "_law_pot" ["_law_script"] (fdN 1 ff_law_pot)) (c__law_draw : DefOk P w K mg base 1 "_law_draw" ["_law_pot_here", "_law_limit"] (fdN 2 ff_law_draw)) (c__law_all : DefOk P w K mg base 200 "_law_all" ["_law_names", "_law_givens", "_law_path"] (fdN 3 ff_law_all)) (c__law_standard : DefOk P w K mg base 2 "_law_standard" ["_law_words"] (fdN 1 ff_law_standard)) (c_many : DefOk P w K mg base 5 "many" ["size", "names"] (fdN 2 ff_many)) (c_programs : DefOk P w K mg base 105 "programs" ["size"] (fdN 1 (ff_programs c))) (c__law_is_words : DefOk P w K mg base 1 "_law_is_words" ["_law_thing", "_law_due"] (fdN 2 (ff_law_is_words c))) (z_len : mg "len" = none) (z_isinstance : mg "isinstance" = none) (z_list : mg "list" = none) (z_range : mg "range" = none) : FnOk P w K mg base CX0 201 f fd ["_law_script"] (spLaw K) := by
  exact law_fn Fn sc_law rfl rfl (fun cdv A outer s H E hr => by
    have hu := hr.units
    have nd := sc_law.nd
    exact (db_cons (ds_set (i := 1) nd (de_callN c__law_pot (hr.mono (by decide)) (da_cons (de_var (pv 0)) da_nil)))
      (db_cons (ds_set (i := 2) nd (de_if (dt_cmp (op_eqA hu) sv_eq (de_callN c__law_draw (hr.mono (by decide)) (da_cons (de_var (pv 1)) (da_cons de_int da_nil))) de_int) de_int (de_callN c__law_draw (hr.mono (by decide)) (da_cons (de_var (pv 1)) (da_cons de_int da_nil)))))
      (db_cons (ds_setLc (i := 3) false (own := [("_law_words", 7)]) rfl nd (di_seq (de_callN c__law_all (hr.mono (by decide)) (da_cons (de_tup da_nil) (da_cons (de_var (pv 2)) (da_cons de_str da_nil))))) (blkOk_by (N := ["_law_script", "_law_pot_here", "_law_size", "_law_due", "_law_again", "_law_told", "_law_at", "_law_words"]) (sc := defScope s_law) (by decide +kernel)) (fun _ _ _ _ _ => (dc_name (i := 7) nd (by decide))) (fun _ _ _ _ _ => dp_nil) (fun _ _ _ _ _ => (de_callN c__law_standard (hr.mono (by decide)) (da_cons (de_var (pv 7)) da_nil))))
      (db_cons (ds_if (dt_cmp (op_neA hu) sv_ne (de_callN c_many (hr.mono (by decide)) (da_cons (de_var (pv 2)) (da_cons de_int da_nil))) (de_callB call_lenA sc_len z_len (da_cons (de_var (pv 3)) da_nil))) (db_one (ds_ret false de_bl)) db_nil)
      (db_cons (ds_for PassesOwn.never rfl (di_range1 z_range (da_cons de_int da_nil)) (dg_name (i := 4) nd) (db_cons (ds_set (i := 5) nd (de_callN c_programs (hr.mono (by decide)) (da_cons (de_var (pv 2)) da_nil)))
      (db_cons (ds_if (DWx.dt (dw_or (dt_not (dt_tru (de_callB call_isi sc_isi z_isinstance (da_cons (de_var (pv 5)) (da_cons (de_bltn (v := .ty "list") (u := .type "list") rfl z_list (by decide +kernel) rfl (fun _ _ => .ty _)) da_nil))))) (dw_or1 (dt_cmp (op_neA hu) sv_ne (de_callB call_lenA sc_len z_len (da_cons (de_var (pv 5)) da_nil)) (de_callB call_lenA sc_len z_len (da_cons (de_var (pv 3)) da_nil)))))) (db_one (ds_ret false de_bl)) db_nil)
      (db_cons (ds_for PassesOwn.never rfl (di_range1 z_range (da_cons (de_callB call_lenA sc_len z_len (da_cons (de_var (pv 3)) da_nil)) da_nil)) (dg_name (i := 6) nd) (db_one (ds_if (dt_not (dt_tru (de_callN c__law_is_words (hr.mono (by decide)) (da_cons (de_ix hu (de_var (pv 5)) (de_var (pv 6))) (da_cons (de_ix hu (de_var (pv 3)) (de_var (pv 6))) da_nil))))) (db_one (ds_ret false de_bl)) db_nil)))
      (db_cons (ds_expr (de_app (de_var (pv 5)) (de_ix hu (de_var (pv 5)) de_int)))
      (db_one (ds_setIx hu de_non (de_var (pv 5)) (de_callN c__law_draw (hr.mono (by decide)) (da_cons (de_var (pv 1)) (da_cons (de_callB call_lenA sc_len z_len (da_cons (de_var (pv 3)) da_nil)) da_nil))))))))))
      (db_one (ds_ret false de_bl)))))))) sm_law (law_holds c)
end
theorem all_mk {l : PySem.W.OpenLaw} {w : World} {K : PySem.W.Frag} {h : Heap} {mg : Str → Option Value} {fa : Addr} (X : K.In h) (G : h.Ns mainGlobals mg) (hfa : mg "law" = some (.ref fa))
    {f0 f1 f2 f3 f4 f5 f6 f7 f8 f9 f10 f11 f12 f13 f14 f15 f16 f17 f18 f19 f20 f21 f22 f23 f24 f25 f26 : Addr} {od0 an0 od1 an1 od2 an2 od3 an3 od4 an4 od5 an5 od6 an6 od7 an7 od8 an8 od9 an9 od10 an10 od11 an11 od12 an12 od13 an13 od14 an14 od15 an15 od16 an16 od17 an17 od18 an18 od19 an19 od20 an20 od21 an21 od22 an22 od23 an23 od24 an24 od25 an25 od26 an26 : Option Addr} {sl0 sl1 sl2 sl3 sl4 sl5 sl6 sl7 sl8 sl9 sl10 sl11 sl12 sl13 sl14 sl15 sl16 sl17 sl18 sl19 sl20 sl21 sl22 sl23 sl24 sl25 sl26 : Array (Option Value)} {oc0 kV0 dc0 pm0 cd0 ct0 oc1 kV1 dc1 pm1 cd1 ct1 oc2 kV2 dc2 pm2 cd2 ct2 oc3 kV3 dc3 pm3 cd3 ct3 oc4 kV4 dc4 pm4 cd4 ct4 oc5 kV5 dc5 pm5 cd5 ct5 oc6 kV6 dc6 pm6 cd6 ct6 oc7 kV7 dc7 pm7 cd7 ct7 oc8 kV8 dc8 pm8 cd8 ct8 oc9 kV9 dc9 pm9 cd9 ct9 oc10 kV10 dc10 pm10 cd10 ct10 oc11 kV11 dc11 pm11 cd11 ct11 oc12 kV12 dc12 pm12 cd12 ct12 oc13 kV13 dc13 pm13 cd13 ct13 oc14 kV14 dc14 pm14 cd14 ct14 oc15 kV15 dc15 pm15 cd15 ct15 oc16 kV16 dc16 pm16 cd16 ct16 oc17 kV17 dc17 pm17 cd17 ct17 oc18 kV18 dc18 pm18 cd18 ct18 oc19 kV19 dc19 pm19 cd19 ct19 oc20 kV20 dc20 pm20 cd20 ct20 oc21 kV21 dc21 pm21 cd21 ct21 oc22 kV22 dc22 pm22 cd22 ct22 oc23 kV23 dc23 pm23 cd23 ct23 oc24 kV24 dc24 pm24 cd24 ct24 oc25 kV25 dc25 pm25 cd25 ct25 oc26 kV26 dc26 pm26 cd26 ct26 : Value}
    {C_Program_ C_RawProgram_ : Addr}
    {t_MOST t_LETTERS t_MOST_LISTED : Tok}
    (aC_Program : PySem.W.nsIn K mainGlobals "Program" = some (some (.ref C_Program_)))
    (aC_RawProgram : PySem.W.nsIn K mainGlobals "RawProgram" = some (some (.ref C_RawProgram_)))
    (a0 : PySem.W.nsIn K mainGlobals "_law_pot" = some (some (.ref f0)))
    (l0 : K.lookup f0 = some ⟨oc0, od0, .func (PySem.W.fnOf "_law_pot" "_law_pot" (defArgs s_law_pot) (defBody s_law_pot) (defScope s_law_pot) .none kV0 dc0 pm0 an0 cd0 ct0), sl0⟩)
    (c0 : PySem.W.codeIn K cd0 "_law_pot" = true)
    (k0 : PySem.W.keepIn K (.ref f0) = true)
    (a1 : PySem.W.nsIn K mainGlobals "_law_draw" = some (some (.ref f1)))
    (l1 : K.lookup f1 = some ⟨oc1, od1, .func (PySem.W.fnOf "_law_draw" "_law_draw" (defArgs s_law_draw) (defBody s_law_draw) (defScope s_law_draw) .none kV1 dc1 pm1 an1 cd1 ct1), sl1⟩)
    (c1 : PySem.W.codeIn K cd1 "_law_draw" = true)
    (k1 : PySem.W.keepIn K (.ref f1) = true)
    (a2 : PySem.W.nsIn K mainGlobals "_law_choices" = some (some (.ref f2)))
    (l2 : K.lookup f2 = some ⟨oc2, od2, .func (PySem.W.fnOf "_law_choices" "_law_choices" (defArgs s_law_choices) (defBody s_law_choices) (defScope s_law_choices) .none kV2 dc2 pm2 an2 cd2 ct2), sl2⟩)
    (c2 : PySem.W.codeIn K cd2 "_law_choices" = true)
    (k2 : PySem.W.keepIn K (.ref f2) = true)
    (a3 : PySem.W.nsIn K mainGlobals "_law_all" = some (some (.ref f3)))
    (l3 : K.lookup f3 = some ⟨oc3, od3, .func (PySem.W.fnOf "_law_all" "_law_all" (defArgs s_law_all) (defBody s_law_all) (defScope s_law_all) .none kV3 dc3 pm3 an3 cd3 ct3), sl3⟩)
    (c3 : PySem.W.codeIn K cd3 "_law_all" = true)
    (k3 : PySem.W.keepIn K (.ref f3) = true)
    (a4 : PySem.W.nsIn K mainGlobals "_law_letters" = some (some (.ref f4)))
    (l4 : K.lookup f4 = some ⟨oc4, od4, .func (PySem.W.fnOf "_law_letters" "_law_letters" (defArgs s_law_letters) (defBody s_law_letters) (defScope s_law_letters) .none kV4 dc4 pm4 an4 cd4 ct4), sl4⟩)
    (c4 : PySem.W.codeIn K cd4 "_law_letters" = true)
    (k4 : PySem.W.keepIn K (.ref f4) = true)
    (a5 : PySem.W.nsIn K mainGlobals "_law_standard" = some (some (.ref f5)))
    (l5 : K.lookup f5 = some ⟨oc5, od5, .func (PySem.W.fnOf "_law_standard" "_law_standard" (defArgs s_law_standard) (defBody s_law_standard) (defScope s_law_standard) .none kV5 dc5 pm5 an5 cd5 ct5), sl5⟩)
    (c5 : PySem.W.codeIn K cd5 "_law_standard" = true)
    (k5 : PySem.W.keepIn K (.ref f5) = true)
    (a6 : PySem.W.nsIn K mainGlobals "is_integer" = some (some (.ref f6)))
    (l6 : K.lookup f6 = some ⟨oc6, od6, .func (PySem.W.fnOf "is_integer" "is_integer" (defArgs s_is_integer) (defBody s_is_integer) (defScope s_is_integer) .none kV6 dc6 pm6 an6 cd6 ct6), sl6⟩)
    (c6 : PySem.W.codeIn K cd6 "is_integer" = true)
    (k6 : PySem.W.keepIn K (.ref f6) = true)
    (a7 : PySem.W.nsIn K mainGlobals "is_within" = some (some (.ref f7)))
    (l7 : K.lookup f7 = some ⟨oc7, od7, .func (PySem.W.fnOf "is_within" "is_within" (defArgs s_is_within) (defBody s_is_within) (defScope s_is_within) .none kV7 dc7 pm7 an7 cd7 ct7), sl7⟩)
    (c7 : PySem.W.codeIn K cd7 "is_within" = true)
    (k7 : PySem.W.keepIn K (.ref f7) = true)
    (a8 : PySem.W.nsIn K mainGlobals "check_number" = some (some (.ref f8)))
    (l8 : K.lookup f8 = some ⟨oc8, od8, .func (PySem.W.fnOf "check_number" "check_number" (defArgs s_check_number) (defBody s_check_number) (defScope s_check_number) .none kV8 dc8 pm8 an8 cd8 ct8), sl8⟩)
    (c8 : PySem.W.codeIn K cd8 "check_number" = true)
    (k8 : PySem.W.keepIn K (.ref f8) = true)
    (a9 : PySem.W.nsIn K mainGlobals "check_counts" = some (some (.ref f9)))
    (l9 : K.lookup f9 = some ⟨oc9, od9, .func (PySem.W.fnOf "check_counts" "check_counts" (defArgs s_check_counts) (defBody s_check_counts) (defScope s_check_counts) .none kV9 dc9 pm9 an9 cd9 ct9), sl9⟩)
    (c9 : PySem.W.codeIn K cd9 "check_counts" = true)
    (k9 : PySem.W.keepIn K (.ref f9) = true)
    (a10 : PySem.W.nsIn K mainGlobals "pairs" = some (some (.ref f10)))
    (l10 : K.lookup f10 = some ⟨oc10, od10, .func (PySem.W.fnOf "pairs" "pairs" (defArgs s_pairs) (defBody s_pairs) (defScope s_pairs) .none kV10 dc10 pm10 an10 cd10 ct10), sl10⟩)
    (c10 : PySem.W.codeIn K cd10 "pairs" = true)
    (k10 : PySem.W.keepIn K (.ref f10) = true)
    (a11 : PySem.W.nsIn K mainGlobals "table" = some (some (.ref f11)))
    (l11 : K.lookup f11 = some ⟨oc11, od11, .func (PySem.W.fnOf "table" "table" (defArgs s_table) (defBody s_table) (defScope s_table) .none kV11 dc11 pm11 an11 cd11 ct11), sl11⟩)
    (c11 : PySem.W.codeIn K cd11 "table" = true)
    (k11 : PySem.W.keepIn K (.ref f11) = true)
    (a12 : PySem.W.nsIn K mainGlobals "factorial_of" = some (some (.ref f12)))
    (l12 : K.lookup f12 = some ⟨oc12, od12, .func (PySem.W.fnOf "factorial_of" "factorial_of" (defArgs s_factorial_of) (defBody s_factorial_of) (defScope s_factorial_of) .none kV12 dc12 pm12 an12 cd12 ct12), sl12⟩)
    (c12 : PySem.W.codeIn K cd12 "factorial_of" = true)
    (k12 : PySem.W.keepIn K (.ref f12) = true)
    (a13 : PySem.W.nsIn K mainGlobals "many" = some (some (.ref f13)))
    (l13 : K.lookup f13 = some ⟨oc13, od13, .func (PySem.W.fnOf "many" "many" (defArgs s_many) (defBody s_many) (defScope s_many) .none kV13 dc13 pm13 an13 cd13 ct13), sl13⟩)
    (c13 : PySem.W.codeIn K cd13 "many" = true)
    (k13 : PySem.W.keepIn K (.ref f13) = true)
    (a14 : PySem.W.nsIn K mainGlobals "labelled" = some (some (.ref f14)))
    (l14 : K.lookup f14 = some ⟨oc14, od14, .func (PySem.W.fnOf "labelled" "labelled" (defArgs s_labelled) (defBody s_labelled) (defScope s_labelled) .none kV14 dc14 pm14 an14 cd14 ct14), sl14⟩)
    (c14 : PySem.W.codeIn K cd14 "labelled" = true)
    (k14 : PySem.W.keepIn K (.ref f14) = true)
    (a15 : PySem.W.nsIn K mainGlobals "letters_name" = some (some (.ref f15)))
    (l15 : K.lookup f15 = some ⟨oc15, od15, .func (PySem.W.fnOf "letters_name" "letters_name" (defArgs s_letters_name) (defBody s_letters_name) (defScope s_letters_name) .none kV15 dc15 pm15 an15 cd15 ct15), sl15⟩)
    (c15 : PySem.W.codeIn K cd15 "letters_name" = true)
    (k15 : PySem.W.keepIn K (.ref f15) = true)
    (a16 : PySem.W.nsIn K mainGlobals "is_take" = some (some (.ref f16)))
    (l16 : K.lookup f16 = some ⟨oc16, od16, .func (PySem.W.fnOf "is_take" "is_take" (defArgs s_is_take) (defBody s_is_take) (defScope s_is_take) .none kV16 dc16 pm16 an16 cd16 ct16), sl16⟩)
    (c16 : PySem.W.codeIn K cd16 "is_take" = true)
    (k16 : PySem.W.keepIn K (.ref f16) = true)
    (a17 : PySem.W.nsIn K mainGlobals "choose" = some (some (.ref f17)))
    (l17 : K.lookup f17 = some ⟨oc17, od17, .func (PySem.W.fnOf "choose" "choose" (defArgs s_choose) (defBody s_choose) (defScope s_choose) .none kV17 dc17 pm17 an17 cd17 ct17), sl17⟩)
    (c17 : PySem.W.codeIn K cd17 "choose" = true)
    (k17 : PySem.W.keepIn K (.ref f17) = true)
    (a18 : PySem.W.nsIn K mainGlobals "weight" = some (some (.ref f18)))
    (l18 : K.lookup f18 = some ⟨oc18, od18, .func (PySem.W.fnOf "weight" "weight" (defArgs s_weight) (defBody s_weight) (defScope s_weight) .none kV18 dc18 pm18 an18 cd18 ct18), sl18⟩)
    (c18 : PySem.W.codeIn K cd18 "weight" = true)
    (k18 : PySem.W.keepIn K (.ref f18) = true)
    (a19 : PySem.W.nsIn K mainGlobals "extending" = some (some (.ref f19)))
    (l19 : K.lookup f19 = some ⟨oc19, od19, .func (PySem.W.fnOf "extending" "extending" (defArgs s_extending) (defBody s_extending) (defScope s_extending) .none kV19 dc19 pm19 an19 cd19 ct19), sl19⟩)
    (c19 : PySem.W.codeIn K cd19 "extending" = true)
    (k19 : PySem.W.keepIn K (.ref f19) = true)
    (a20 : PySem.W.nsIn K mainGlobals "pick" = some (some (.ref f20)))
    (l20 : K.lookup f20 = some ⟨oc20, od20, .func (PySem.W.fnOf "pick" "pick" (defArgs s_pick) (defBody s_pick) (defScope s_pick) .none kV20 dc20 pm20 an20 cd20 ct20), sl20⟩)
    (c20 : PySem.W.codeIn K cd20 "pick" = true)
    (k20 : PySem.W.keepIn K (.ref f20) = true)
    (a21 : PySem.W.nsIn K mainGlobals "build" = some (some (.ref f21)))
    (l21 : K.lookup f21 = some ⟨oc21, od21, .func (PySem.W.fnOf "build" "build" (defArgs s_build) (defBody s_build) (defScope s_build) .none kV21 dc21 pm21 an21 cd21 ct21), sl21⟩)
    (c21 : PySem.W.codeIn K cd21 "build" = true)
    (k21 : PySem.W.keepIn K (.ref f21) = true)
    (a22 : PySem.W.nsIn K mainGlobals "raw_program_at" = some (some (.ref f22)))
    (l22 : K.lookup f22 = some ⟨oc22, od22, .func (PySem.W.fnOf "raw_program_at" "raw_program_at" (defArgs s_raw_program_at) (defBody s_raw_program_at) (defScope s_raw_program_at) .none kV22 dc22 pm22 an22 cd22 ct22), sl22⟩)
    (c22 : PySem.W.codeIn K cd22 "raw_program_at" = true)
    (k22 : PySem.W.keepIn K (.ref f22) = true)
    (a23 : PySem.W.findIn K (.ref C_RawProgram_) "__init__" = some (some (.ref f23)))
    (i23 : PySem.W.isFn K (.ref f23) = true)
    (l23 : K.lookup f23 = some ⟨oc23, od23, .func (PySem.W.fnOf "__init__" "RawProgram.__init__" (defArgs s_RawProgram_init) (defBody s_RawProgram_init) (defScope s_RawProgram_init) .none kV23 dc23 pm23 an23 cd23 ct23), sl23⟩)
    (c23 : PySem.W.codeIn K cd23 "RawProgram.__init__" = true)
    (k23 : PySem.W.keepIn K (.ref f23) = true)
    (a24 : PySem.W.nsIn K mainGlobals "programs" = some (some (.ref f24)))
    (l24 : K.lookup f24 = some ⟨oc24, od24, .func (PySem.W.fnOf "programs" "programs" (defArgs s_programs) (defBody s_programs) (defScope s_programs) .none kV24 dc24 pm24 an24 cd24 ct24), sl24⟩)
    (c24 : PySem.W.codeIn K cd24 "programs" = true)
    (k24 : PySem.W.keepIn K (.ref f24) = true)
    (a25 : PySem.W.nsIn K mainGlobals "_law_is_words" = some (some (.ref f25)))
    (l25 : K.lookup f25 = some ⟨oc25, od25, .func (PySem.W.fnOf "_law_is_words" "_law_is_words" (defArgs s_law_is_words) (defBody s_law_is_words) (defScope s_law_is_words) .none kV25 dc25 pm25 an25 cd25 ct25), sl25⟩)
    (c25 : PySem.W.codeIn K cd25 "_law_is_words" = true)
    (k25 : PySem.W.keepIn K (.ref f25) = true)
    (a26 : PySem.W.nsIn K mainGlobals "law" = some (some (.ref f26)))
    (l26 : K.lookup f26 = some ⟨oc26, od26, .func (PySem.W.fnOf "law" "law" (defArgs s_law) (defBody s_law) (defScope s_law) .none kV26 dc26 pm26 an26 cd26 ct26), sl26⟩)
    (c26 : PySem.W.codeIn K cd26 "law" = true)
    (k26 : PySem.W.keepIn K (.ref f26) = true)
    (pg_Program : PySem.W.plainGet K C_Program_ Str.empty = true)
    (hd_Program : PySem.W.hasDictIn K C_Program_ = true)
    (po_Program : PySem.W.plainOver K C_Program_ = true)
    (sa_Program : PySem.W.findIn K (.ref C_Program_) "__setattr__" = some (some (.builtin "object.__setattr__")))
    (mk_Program : PySem.W.makesIn K C_Program_ = true)
    (kc_Program : PySem.W.keepIn K (.ref C_Program_) = true)
    (n_Program_words : PySem.W.findIn K (.ref C_Program_) "words" = some none)
    (cc_Program : PySem.W.findIn K (.ref C_Program_) "__class__" = some (some (.builtin "object.__class__")))
    (mo_Program : PySem.W.mroIn K C_Program_ (.type "object") = some true)
    (pg_RawProgram : PySem.W.plainGet K C_RawProgram_ Str.empty = true)
    (hd_RawProgram : PySem.W.hasDictIn K C_RawProgram_ = true)
    (po_RawProgram : PySem.W.plainOver K C_RawProgram_ = true)
    (sa_RawProgram : PySem.W.findIn K (.ref C_RawProgram_) "__setattr__" = some (some (.builtin "object.__setattr__")))
    (mk_RawProgram : PySem.W.makesIn K C_RawProgram_ = true)
    (kc_RawProgram : PySem.W.keepIn K (.ref C_RawProgram_) = true)
    (n_RawProgram_words : PySem.W.findIn K (.ref C_RawProgram_) "words" = some none)
    (cc_RawProgram : PySem.W.findIn K (.ref C_RawProgram_) "__class__" = some (some (.builtin "object.__class__")))
    (mo_RawProgram : PySem.W.mroIn K C_RawProgram_ (.type "object") = some true)
    (cg : PySem.W.specialIn K (.builtin "object.__class__") "__get__" = some (some (.builtin "getset_descriptor.__get__")))
    (ct : PySem.W.takesIn K (.builtin "object.__class__") = some true)
    (is_Program_Program : PySem.W.kitOne K (.ref C_Program_) (.ref C_Program_) = some true)
    (is_RawProgram_Program : PySem.W.kitOne K (.ref C_RawProgram_) (.ref C_Program_) = some true)
    (is_RawProgram_RawProgram : PySem.W.kitOne K (.ref C_RawProgram_) (.ref C_RawProgram_) = some true)
    (g_MOST : PySem.W.nsIn K mainGlobals "MOST" = some (some (.int 40 t_MOST)))
    (g_LETTERS : PySem.W.nsIn K mainGlobals "LETTERS" = some (some (.str "abcdefghijklmnopqrstuvwxyz" t_LETTERS)))
    (g_MOST_LISTED : PySem.W.nsIn K mainGlobals "MOST_LISTED" = some (some (.int 3 t_MOST_LISTED)))
    (z_int : PySem.W.nsIn K mainGlobals "int" = some none)
    (z_sum : PySem.W.nsIn K mainGlobals "sum" = some none)
    (z_abs : PySem.W.nsIn K mainGlobals "abs" = some none)
    (z_len : PySem.W.nsIn K mainGlobals "len" = some none)
    (z_range : PySem.W.nsIn K mainGlobals "range" = some none)
    (z_tuple : PySem.W.nsIn K mainGlobals "tuple" = some none)
    (z_isinstance : PySem.W.nsIn K mainGlobals "isinstance" = some none)
    (z_bool : PySem.W.nsIn K mainGlobals "bool" = some none)
    (z_min : PySem.W.nsIn K mainGlobals "min" = some none)
    (z_max : PySem.W.nsIn K mainGlobals "max" = some none)
    (z_enumerate : PySem.W.nsIn K mainGlobals "enumerate" = some none)
    (z_list : PySem.W.nsIn K mainGlobals "list" = some none)
    : ∃ fd : FuncData, (∀ (s : Shared) (v : Value), BindsTo s fd ⟨[v], []⟩ [("_law_script", v)]) ∧ ∀ base : Heap, K.In base → base.Ns mainGlobals mg → FnOk l.prog w K mg base CX0 201 fa fd ["_law_script"] (spLaw K) := by
  have e := hfa.symm.trans (PySem.W.mg_of X G a26)
  cases e
  have y_int : mg "int" = none := PySem.W.mg_none_of X G z_int
  have y_sum : mg "sum" = none := PySem.W.mg_none_of X G z_sum
  have y_abs : mg "abs" = none := PySem.W.mg_none_of X G z_abs
  have y_len : mg "len" = none := PySem.W.mg_none_of X G z_len
  have y_range : mg "range" = none := PySem.W.mg_none_of X G z_range
  have y_tuple : mg "tuple" = none := PySem.W.mg_none_of X G z_tuple
  have y_isinstance : mg "isinstance" = none := PySem.W.mg_none_of X G z_isinstance
  have y_bool : mg "bool" = none := PySem.W.mg_none_of X G z_bool
  have y_min : mg "min" = none := PySem.W.mg_none_of X G z_min
  have y_max : mg "max" = none := PySem.W.mg_none_of X G z_max
  have y_enumerate : mg "enumerate" = none := PySem.W.mg_none_of X G z_enumerate
  have y_list : mg "list" = none := PySem.W.mg_none_of X G z_list
  have h_MOST : ∃ t, mg "MOST" = some (.int 40 t) := ⟨_, PySem.W.mg_of X G g_MOST⟩
  have h_LETTERS : ∃ t, mg "LETTERS" = some (.str "abcdefghijklmnopqrstuvwxyz" t) := ⟨_, PySem.W.mg_of X G g_LETTERS⟩
  have h_MOST_LISTED : ∃ t, mg "MOST_LISTED" = some (.int 3 t) := ⟨_, PySem.W.mg_of X G g_MOST_LISTED⟩
  have F0 := fun_mk (st := s_law_pot) l0 c0 k0
  have F1 := fun_mk (st := s_law_draw) l1 c1 k1
  have F2 := fun_mk (st := s_law_choices) l2 c2 k2
  have F3 := fun_mk (st := s_law_all) l3 c3 k3
  have F4 := fun_mk (st := s_law_letters) l4 c4 k4
  have F5 := fun_mk (st := s_law_standard) l5 c5 k5
  have F6 := fun_mk (st := s_is_integer) l6 c6 k6
  have F7 := fun_mk (st := s_is_within) l7 c7 k7
  have F8 := fun_mk (st := s_check_number) l8 c8 k8
  have F9 := fun_mk (st := s_check_counts) l9 c9 k9
  have F10 := fun_mk (st := s_pairs) l10 c10 k10
  have F11 := fun_mk (st := s_table) l11 c11 k11
  have F12 := fun_mk (st := s_factorial_of) l12 c12 k12
  have F13 := fun_mk (st := s_many) l13 c13 k13
  have F14 := fun_mk (st := s_labelled) l14 c14 k14
  have F15 := fun_mk (st := s_letters_name) l15 c15 k15
  have F16 := fun_mk (st := s_is_take) l16 c16 k16
  have F17 := fun_mk (st := s_choose) l17 c17 k17
  have F18 := fun_mk (st := s_weight) l18 c18 k18
  have F19 := fun_mk (st := s_extending) l19 c19 k19
  have F20 := fun_mk (st := s_pick) l20 c20 k20
  have F21 := fun_mk (st := s_build) l21 c21 k21
  have F22 := fun_mk (st := s_raw_program_at) l22 c22 k22
  have F23 := fun_mk (st := s_RawProgram_init) l23 c23 k23
  have F24 := fun_mk (st := s_programs) l24 c24 k24
  have F25 := fun_mk (st := s_law_is_words) l25 c25 k25
  have F26 := fun_mk (st := s_law) l26 c26 k26
  let c : Cs := ⟨C_Program_, C_RawProgram_⟩
  have hc_Program : mg "Program" = some (.ref c.Program) := PySem.W.mg_of X G aC_Program
  have cl_Program : Cls K C_Program_ := ⟨pg_Program, hd_Program, po_Program, sa_Program⟩
  have hc_RawProgram : mg "RawProgram" = some (.ref c.RawProgram) := PySem.W.mg_of X G aC_RawProgram
  have cl_RawProgram : Cls K C_RawProgram_ := ⟨pg_RawProgram, hd_RawProgram, po_RawProgram, sa_RawProgram⟩
  have HF_words : ∀ C, c.P C → Cls K C ∧ NoAttr K C "words" := by
    intro C hC
    rcases hC with rfl | rfl
    · exact ⟨cl_Program, n_Program_words⟩
    · exact ⟨cl_RawProgram, n_RawProgram_words⟩
  have HI : IsiOk K c.rel := by
    constructor
    · intro t D b e
      cases t with
      | ref C =>
        unfold Cs.rel at e
        dsimp only at e
        split at e
        · rename_i hh
          cases e
          rcases hh with ⟨rfl, rfl⟩ | ⟨rfl, rfl⟩ | ⟨rfl, rfl⟩
          · exact is_Program_Program
          · exact is_RawProgram_Program
          · exact is_RawProgram_RawProgram
        · cases e
      | _ => cases e
    · intro C D b e
      unfold Cs.rel at e
      dsimp only at e
      split at e
      · rename_i hh
        rcases hh with ⟨rfl, rfl⟩ | ⟨rfl, rfl⟩ | ⟨rfl, rfl⟩
        · exact ⟨cl_Program, cc_Program, cg, ct, mo_Program⟩
        · exact ⟨cl_RawProgram, cc_RawProgram, cg, ct, mo_RawProgram⟩
        · exact ⟨cl_RawProgram, cc_RawProgram, cg, ct, mo_RawProgram⟩
      · cases e
  refine ⟨PySem.W.fnOf "law" "law" (defArgs s_law) (defBody s_law) (defScope s_law) .none kV26 dc26 pm26 an26 cd26 ct26, fun s v => .of_eq rfl, fun base _ _ => ?_⟩
  have C__law_pot := ok_law_pot (P := l.prog) (w := w) (base := base) F0 (PySem.W.mg_of X G a0) y_int y_sum y_abs y_len
  have C__law_draw := ok_law_draw (P := l.prog) (w := w) (base := base) F1 (PySem.W.mg_of X G a1) y_int y_len
  have C__law_choices := ok_law_choices (P := l.prog) (w := w) (base := base) F2 (PySem.W.mg_of X G a2) y_range
  have C__law_all := ok_law_all (P := l.prog) (w := w) (base := base) F3 (PySem.W.mg_of X G a3) C__law_choices y_len y_tuple y_range
  have C__law_letters := ok_law_letters (P := l.prog) (w := w) (base := base) F4 (PySem.W.mg_of X G a4) y_int
  have C__law_standard := ok_law_standard (P := l.prog) (w := w) (base := base) F5 (PySem.W.mg_of X G a5) C__law_letters y_len
  have C_is_integer := ok_is_integer (P := l.prog) (w := w) (base := base) F6 (PySem.W.mg_of X G a6) y_isinstance y_int y_bool
  have C_is_within := ok_is_within (P := l.prog) (w := w) (base := base) F7 (PySem.W.mg_of X G a7) C_is_integer
  have C_check_number := ok_check_number (P := l.prog) (w := w) (base := base) F8 (PySem.W.mg_of X G a8) C_is_within
  have C_check_counts := ok_check_counts (P := l.prog) (w := w) (base := base) F9 (PySem.W.mg_of X G a9) C_check_number h_MOST
  have C_pairs := ok_pairs (P := l.prog) (w := w) (base := base) F10 (PySem.W.mg_of X G a10) y_range y_sum y_min y_max
  have C_table := ok_table (P := l.prog) (w := w) (base := base) F11 (PySem.W.mg_of X G a11) C_pairs y_range y_int
  have C_factorial_of := ok_factorial_of (P := l.prog) (w := w) (base := base) F12 (PySem.W.mg_of X G a12) y_range
  have C_many := ok_many (P := l.prog) (w := w) (base := base) F13 (PySem.W.mg_of X G a13) C_check_counts C_table C_factorial_of
  have C_labelled := ok_labelled (P := l.prog) (w := w) (base := base) F14 (PySem.W.mg_of X G a14) C_table C_factorial_of y_enumerate
  have C_letters_name := ok_letters_name (P := l.prog) (w := w) (base := base) F15 (PySem.W.mg_of X G a15) h_LETTERS
  have C_is_take := ok_is_take (P := l.prog) (w := w) (base := base) F16 (PySem.W.mg_of X G a16) 
  have C_choose := ok_choose (P := l.prog) (w := w) (base := base) F17 (PySem.W.mg_of X G a17) y_range
  have C_weight := ok_weight (P := l.prog) (w := w) (base := base) F18 (PySem.W.mg_of X G a18) 
  have C_extending := ok_extending (P := l.prog) (w := w) (base := base) F19 (PySem.W.mg_of X G a19) C_choose C_weight y_sum y_range
  have C_pick := ok_pick (P := l.prog) (w := w) (base := base) F20 (PySem.W.mg_of X G a20) C_extending C_weight y_len
  have C_build := ok_build (P := l.prog) (w := w) (base := base) F21 (PySem.W.mg_of X G a21) C_letters_name C_is_take C_pick y_len y_enumerate
  have C_raw_program_at := ok_raw_program_at (P := l.prog) (w := w) (base := base) F22 (PySem.W.mg_of X G a22) C_build y_tuple
  have I_RawProgram_init := ok_RawProgram_init (c := c) (P := l.prog) (w := w) (mg := mg) (base := base) F23 y_tuple HF_words
  have K_RawProgram : MkOk l.prog w K mg base 1 "RawProgram" c.RawProgram ["self", "words"] (fdN 2 (ff_RawProgram_init c)) := ⟨_, _, hc_RawProgram, ⟨mk_RawProgram, a23, i23, kc_RawProgram⟩, (F23.binds (ps := ["self", "words"]) fun _ _ _ _ _ _ us hl => match us, hl with | [_, _], _ => rfl), I_RawProgram_init⟩
  have C_programs := ok_programs (c := c) (P := l.prog) (w := w) (base := base) F24 (PySem.W.mg_of X G a24) C_check_number C_labelled C_raw_program_at h_MOST_LISTED y_range K_RawProgram
  have C__law_is_words := ok_law_is_words (c := c) (P := l.prog) (w := w) (base := base) F25 (PySem.W.mg_of X G a25) hc_Program y_isinstance y_tuple HF_words HI
  exact ok_law (c := c) F26 C__law_pot C__law_draw C__law_all C__law_standard C_many C_programs C__law_is_words y_len y_isinstance y_list y_range
theorem walk {l : PySem.W.OpenLaw} {q : Program} {loose : List Str} {XP : (Str → Option Value) → Heap → Prop} {YP : World → Heap → Prop} {d : DefRec} {K : Params → PySem.W.Frag} (hn : l.most = some 63) (hdf : d.params.defaults = [])
    (hY : ∀ (w : World) (h : Heap), YP w h → (K w.params).In h)
    (F : ∀ (w : World) (mg : Str → Option Value) (fa : Addr) (h : Heap), (K w.params).In h → h.Ns mainGlobals mg → mg d.name = some (.ref fa) →
      ∃ fd : FuncData, (∀ (s : Shared) (u : Value), BindsTo s fd ⟨[u], []⟩ [("_law_script", u)]) ∧ ∀ base : Heap, (K w.params).In base → base.Ns mainGlobals mg → FnOk l.prog w (K w.params) mg base CX0 201 fa fd ["_law_script"] (spLaw (K w.params))) :
    PySem.W.WalkO q loose XP YP l.row.toRowW d [] (fun f vs => PySem.call f vs) :=
  L2.walk_of (n := 63) (k := 201) (x := "_law_script") (CX := fun _ => CX0) (sp := fun w => spLaw (K w.params)) hn (by decide) hdf ⟨rfl, by decide, by decide⟩ hY F (fun _ _ a ns hl _ hS => ⟨a, ns, rfl, hS, hl, fun _ => rfl⟩) fun _ _ _ _ _ z => z
end Once
open PySem PySem.W PyProof.Rows
set_option maxRecDepth 100000 in
set_option maxHeartbeats 0 in
theorem PySem.Challenge.cw_oncekinds_k47_whole_programs_listed_holds : PySem.Challenge.rw_oncekinds_k47_whole_programs_listed.Holds := by
  w_on; o_law; k_head; (case hw => w_witness2)
  k_fill
  refine Once.walk (l := PySem.Challenge.rw_oncekinds_k47_whole_programs_listed) rfl rfl (fun w h Y => PySem.W.kIn_of Y) ?F
  case F =>
    intro w mg fa h KX G hmg
    refine' Once.all_mk KX G hmg ?aC_Program ?aC_RawProgram ?a0 ?l0 ?c0 ?k0 ?a1 ?l1 ?c1 ?k1 ?a2 ?l2 ?c2 ?k2 ?a3 ?l3 ?c3 ?k3 ?a4 ?l4 ?c4 ?k4 ?a5 ?l5 ?c5 ?k5 ?a6 ?l6 ?c6 ?k6 ?a7 ?l7 ?c7 ?k7 ?a8 ?l8 ?c8 ?k8 ?a9 ?l9 ?c9 ?k9 ?a10 ?l10 ?c10 ?k10 ?a11 ?l11 ?c11 ?k11 ?a12 ?l12 ?c12 ?k12 ?a13 ?l13 ?c13 ?k13 ?a14 ?l14 ?c14 ?k14 ?a15 ?l15 ?c15 ?k15 ?a16 ?l16 ?c16 ?k16 ?a17 ?l17 ?c17 ?k17 ?a18 ?l18 ?c18 ?k18 ?a19 ?l19 ?c19 ?k19 ?a20 ?l20 ?c20 ?k20 ?a21 ?l21 ?c21 ?k21 ?a22 ?l22 ?c22 ?k22 ?a23 ?i23 ?l23 ?c23 ?k23 ?a24 ?l24 ?c24 ?k24 ?a25 ?l25 ?c25 ?k25 ?a26 ?l26 ?c26 ?k26 ?pg_Program ?hd_Program ?po_Program ?sa_Program ?mk_Program ?kc_Program ?n_Program_words ?cc_Program ?mo_Program ?pg_RawProgram ?hd_RawProgram ?po_RawProgram ?sa_RawProgram ?mk_RawProgram ?kc_RawProgram ?n_RawProgram_words ?cc_RawProgram ?mo_RawProgram ?cg ?ct ?is_Program_Program ?is_RawProgram_Program ?is_RawProgram_RawProgram ?g_MOST ?g_LETTERS ?g_MOST_LISTED ?z_int ?z_sum ?z_abs ?z_len ?z_range ?z_tuple ?z_isinstance ?z_bool ?z_min ?z_max ?z_enumerate ?z_list
    (case aC_Program => k_is)
    (case aC_RawProgram => k_is)
    (case a0 => k_is)
    (case l0 => k_is)
    (case c0 => k_is)
    (case k0 => k_is)
    (case a1 => k_is)
    (case l1 => k_is)
    (case c1 => k_is)
    (case k1 => k_is)
    (case a2 => k_is)
    (case l2 => k_is)
    (case c2 => k_is)
    (case k2 => k_is)
    (case a3 => k_is)
    (case l3 => k_is)
    (case c3 => k_is)
    (case k3 => k_is)
    (case a4 => k_is)
    (case l4 => k_is)
    (case c4 => k_is)
    (case k4 => k_is)
    (case a5 => k_is)
    (case l5 => k_is)
    (case c5 => k_is)
    (case k5 => k_is)
    (case a6 => k_is)
    (case l6 => k_is)
    (case c6 => k_is)
    (case k6 => k_is)
    (case a7 => k_is)
    (case l7 => k_is)
    (case c7 => k_is)
    (case k7 => k_is)
    (case a8 => k_is)
    (case l8 => k_is)
    (case c8 => k_is)
    (case k8 => k_is)
    (case a9 => k_is)
    (case l9 => k_is)
    (case c9 => k_is)
    (case k9 => k_is)
    (case a10 => k_is)
    (case l10 => k_is)
    (case c10 => k_is)
    (case k10 => k_is)
    (case a11 => k_is)
    (case l11 => k_is)
    (case c11 => k_is)
    (case k11 => k_is)
    (case a12 => k_is)
    (case l12 => k_is)
    (case c12 => k_is)
    (case k12 => k_is)
    (case a13 => k_is)
    (case l13 => k_is)
    (case c13 => k_is)
    (case k13 => k_is)
    (case a14 => k_is)
    (case l14 => k_is)
    (case c14 => k_is)
    (case k14 => k_is)
    (case a15 => k_is)
    (case l15 => k_is)
    (case c15 => k_is)
    (case k15 => k_is)
    (case a16 => k_is)
    (case l16 => k_is)
    (case c16 => k_is)
    (case k16 => k_is)
    (case a17 => k_is)
    (case l17 => k_is)
    (case c17 => k_is)
    (case k17 => k_is)
    (case a18 => k_is)
    (case l18 => k_is)
    (case c18 => k_is)
    (case k18 => k_is)
    (case a19 => k_is)
    (case l19 => k_is)
    (case c19 => k_is)
    (case k19 => k_is)
    (case a20 => k_is)
    (case l20 => k_is)
    (case c20 => k_is)
    (case k20 => k_is)
    (case a21 => k_is)
    (case l21 => k_is)
    (case c21 => k_is)
    (case k21 => k_is)
    (case a22 => k_is)
    (case l22 => k_is)
    (case c22 => k_is)
    (case k22 => k_is)
    (case a23 => k_is)
    (case i23 => k_is)
    (case l23 => k_is)
    (case c23 => k_is)
    (case k23 => k_is)
    (case a24 => k_is)
    (case l24 => k_is)
    (case c24 => k_is)
    (case k24 => k_is)
    (case a25 => k_is)
    (case l25 => k_is)
    (case c25 => k_is)
    (case k25 => k_is)
    (case a26 => k_is)
    (case l26 => k_is)
    (case c26 => k_is)
    (case k26 => k_is)
    (case pg_Program => k_is)
    (case hd_Program => k_is)
    (case po_Program => k_is)
    (case sa_Program => k_is)
    (case mk_Program => k_is)
    (case kc_Program => k_is)
    (case n_Program_words => k_is)
    (case cc_Program => k_is)
    (case mo_Program => k_is)
    (case pg_RawProgram => k_is)
    (case hd_RawProgram => k_is)
    (case po_RawProgram => k_is)
    (case sa_RawProgram => k_is)
    (case mk_RawProgram => k_is)
    (case kc_RawProgram => k_is)
    (case n_RawProgram_words => k_is)
    (case cc_RawProgram => k_is)
    (case mo_RawProgram => k_is)
    (case cg => k_is)
    (case ct => k_is)
    (case is_Program_Program => kit_is)
    (case is_RawProgram_Program => kit_is)
    (case is_RawProgram_RawProgram => kit_is)
    (case g_MOST => k_is)
    (case g_LETTERS => k_is)
    (case g_MOST_LISTED => k_is)
    (case z_int => k_is)
    (case z_sum => k_is)
    (case z_abs => k_is)
    (case z_len => k_is)
    (case z_range => k_is)
    (case z_tuple => k_is)
    (case z_isinstance => k_is)
    (case z_bool => k_is)
    (case z_min => k_is)
    (case z_max => k_is)
    (case z_enumerate => k_is)
    (case z_list => k_is)
