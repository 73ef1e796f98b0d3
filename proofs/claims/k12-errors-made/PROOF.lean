import PyProof.Rows.All
import Wide.All
import OpenK.AllK
import Wide.FinOn
import HandS.ForMost
import HandS.ForExc
import HandS.CallSlots
import HandS.ExcInit
import HandS.ExcValue
import HandS.IsInst
import HandS.Wide
import KE.GoesMore
import HandS.Zip
import HandS.Property
import KE.RegKCallOwn
import HandS.OwnEq
import HandS.FStr
import HandS.Deep
import HandS.Defaults
import HandS.RaiseMore
import HandS.ExcField
import KE.KExcIs
import HandS.ExcIs
import PyProof.StrOps2
import HandS.Star
import OpenK.KDescr
import KE.SortCalls
import KE.SortKeyed
import PyProof.TupleOfSeq
import PyProof.Rows.Range3
import PyProof.Conv_bool
import HandS.Style
import KE.KExcInit
import PyProof.Rows.ListStrD
import HandS.Conv
import KE.RegKIsAll
import PySem.Challenge.RW_handedcopies_k12_errors_made
set_option Elab.async false
set_option linter.all false
set_option maxRecDepth 100000
set_option maxHeartbeats 4000000
namespace MP
open PySem L2

/-! ### values, memory -/
inductive D where
  | non | bl (b : Bool) | int (i : Int) | str (x : Str)
  | tup (xs : List D) | lst (xs : List D) | scr (xs : List D) | obj (c : Str) (fs : List (Str × D)) | ref (k : Nat) | exn (a : Addr) (d : Option Addr) (c : Str) (fs : List (Str × D)) | err (c : Str) (fs : List (Str × D))
inductive MO where
  | lst (xs : List D) | dct (kvs : List (Key × D)) | ins (c : Str) (fs : List (Str × D)) | dead
abbrev Mem := List MO
inductive R (α : Type) where
  | ok (a : α) (M : Mem) | exc (c : Str) (fs : List (Str × D)) (M : Mem) | stuck
def R.bind {α β : Type} (r : R α) (f : α → Mem → R β) : R β := match r with
  | .ok a M => f a M
  | .exc c fs M => .exc c fs M
  | .stuck => .stuck
def R.opt {α : Type} (o : Option α) (M : Mem) : R α := match o with
  | some a => .ok a M
  | none => .stuck
abbrev Env := List (Option D)
abbrev Calls := Nat → List D → Mem → R D
abbrev ES := Calls → Env → Mem → R D
abbrev TSm := Calls → Env → Mem → R Bool
abbrev AS := Calls → Env → Mem → R (List D)
inductive SR where
  | next (ρ : Env) (M : Mem) | brk (ρ : Env) (M : Mem) | cnt (ρ : Env) (M : Mem) | ret (d : D) (M : Mem) | exc (c : Str) (fs : List (Str × D)) (ρ : Env) (M : Mem) | stuck
abbrev SS := Calls → Env → Mem → SR

/-! ### relation -/
section
variable (K : PySem.W.Frag) (mg : Str → Option Value) (F : Hp) (ι : List Addr)
mutual
inductive RV : D → V → Prop
  | non : RV .non .non
  | bl (b : Bool) : RV (.bl b) (.bl b)
  | int (i : Int) : RV (.int i) (.int i)
  | str (x : Str) : RV (.str x) (.str x)
  | tup {a : Addr} {xs : List D} {vs : List V} : SqT K F a vs → RVs xs vs → RV (.tup xs) (.ref a)
  | lst {a : Addr} {xs : List D} {vs : List V} : F a = some (.lst vs) → RVs xs vs → RV (.lst xs) (.ref a)
  | scr {a : Addr} {xs : List D} {vs : List V} : SqL K F a vs → RVs xs vs → RV (.scr xs) (.ref a)
  | obj {a C dx : Addr} {c : Str} {fs : List (Str × D)} {gs : List (Str × V)} : F a = some (.ins C dx gs) → mg c = some (.ref C) → RVf fs gs → RV (.obj c fs) (.ref a)
  | ref {k : Nat} {a : Addr} : ι[k]? = some a → RV (.ref k) (.ref a)
  | exn {a dx C : Addr} {c : Str} {fs : List (Str × D)} {gs : List (Str × V)} : F dx = some (.xd gs) → mg c = some (.ref C) → RVf fs gs → RV (.exn a (some dx) c fs) (.ref a)
  | exn0 {a C : Addr} {c : Str} : mg c = some (.ref C) → RV (.exn a none c []) (.ref a)
  | err {a dx C : Addr} {c : Str} {fs : List (Str × D)} {gs : List (Str × V)} : F a = some (exo a C (some dx)) → F dx = some (exd dx gs) → mg c = some (.ref C) → RVf fs gs → RV (.err c fs) (.ref a)
  | err0 {a C : Addr} {c : Str} : F a = some (ExO (.ref C) a) → mg c = some (.ref C) → RV (.err c []) (.ref a)
inductive RVs : List D → List V → Prop
  | nil : RVs [] []
  | cons {d : D} {v : V} {ds : List D} {vs : List V} : RV d v → RVs ds vs → RVs (d :: ds) (v :: vs)
inductive RVf : List (Str × D) → List (Str × V) → Prop
  | nil : RVf [] []
  | cons {f : Str} {d : D} {v : V} {ds : List (Str × D)} {vs : List (Str × V)} : RV d v → RVf ds vs → RVf ((f, d) :: ds) ((f, v) :: vs)
end
inductive RVk : List (Key × D) → List (Key × V) → Prop
  | nil : RVk [] []
  | cons {f : Key} {d : D} {v : V} {ds : List (Key × D)} {vs : List (Key × V)} : RV K mg F ι d v → RVk ds vs → RVk ((f, d) :: ds) ((f, v) :: vs)
def RM : MO → HO → Prop
  | .lst xs, .lst vs => RVs K mg F ι xs vs
  | .dct xs, .dK vs => RVk K mg F ι xs vs
  | .ins c fs, .ins C _ gs => mg c = some (.ref C) ∧ RVf K mg F ι fs gs
  | _, _ => False
structure Rel (M : Mem) (H : Hp) : Prop where
  sub : ∀ a o, F a = some o → H a = some o
  nd : ι.Nodup
  len : ι.length = M.length
  hs : ∀ a ∈ ι, ∃ o, H a = some o
  ob : ∀ (k : Nat) mo, M[k]? = some mo → ∃ a, ι[k]? = some a ∧ (mo = .dead ∨ ∃ o, F a = none ∧ H a = some o ∧ RM K mg F ι mo o)
def ER (ρ : Env) (σ : St) : Prop := ρ.length = σ.length ∧ ∀ (i : Nat) d, ρ[i]? = some (some d) → ∃ v, σ[i]? = some (some v) ∧ RV K mg F ι d v
end
structure Ext (F : Hp) (ι : List Addr) (H F' : Hp) (ι' : List Addr) (H' : Hp) : Prop where
  f : ∀ a o, F a = some o → F' a = some o
  i : ∃ t, ι' = ι ++ t ∧ ∀ a ∈ t, H a = none
  k : ∀ a o, H a = some o → a ∉ ι → H' a = some o
  n : ∀ a o, H a = some o → F a = none → a ∉ ι → F' a = none
  p : ∀ a o, H a = some o → ∃ o', H' a = some o'
section
variable {K : PySem.W.Frag} {mg : Str → Option Value} {F F' F'' : Hp} {ι ι' ι'' : List Addr} {H H' H'' : Hp}
theorem Ext.refl : Ext F ι H F ι H := ⟨fun _ _ h => h, ⟨[], by simp, by simp⟩, fun _ _ h _ => h, fun _ _ _ h _ => h, fun _ o h => ⟨o, h⟩⟩
theorem Ext.notin (x : Ext F ι H F' ι' H') {a : Addr} {o : HO} (h : H a = some o) (ha : a ∉ ι) : a ∉ ι' := fun hm => by
  obtain ⟨t, rfl, ht⟩ := x.i
  rcases List.mem_append.mp hm with q | q
  · exact ha q
  · rw [ht a q] at h
    cases h
theorem Ext.trans (x : Ext F ι H F' ι' H') (y : Ext F' ι' H' F'' ι'' H'') : Ext F ι H F'' ι'' H'' := by
  refine ⟨fun a o h => y.f a o (x.f a o h), ?_, fun a o h ha => y.k a o (x.k a o h ha) (x.notin h ha), fun a o h hf ha => y.n a o (x.k a o h ha) (x.n a o h hf ha) (x.notin h ha), fun a o h => ?_⟩
  · obtain ⟨t, rfl, ht⟩ := x.i
    obtain ⟨t', rfl, ht'⟩ := y.i
    refine ⟨t ++ t', by simp, fun a ha => ?_⟩
    rcases List.mem_append.mp ha with q | q
    · exact ht a q
    · cases e : H a with
      | none => rfl
      | some o =>
        obtain ⟨o', h'⟩ := x.p a o e
        rw [ht' a q] at h'
        cases h'
  · obtain ⟨o', h'⟩ := x.p a o h
    exact y.p a o' h'
theorem Ext.rd (x : Ext F ι H F' ι' H') {a : Addr} {u : HO} (h : Rd F a u) : Rd F' a u := by
  rcases h with h | ⟨o, h⟩
  · exact .inl (x.f a _ h)
  · exact .inr ⟨o, x.f a _ h⟩
theorem Ext.sqt (x : Ext F ι H F' ι' H') {a : Addr} {xs : List V} (h : SqT K F a xs) : SqT K F' a xs := by
  rcases h with h | h
  · exact .inl (x.rd h)
  · exact .inr h
theorem Ext.sql (x : Ext F ι H F' ι' H') {a : Addr} {xs : List V} (h : SqL K F a xs) : SqL K F' a xs := by
  rcases h with h | h
  · exact .inl (x.rd h)
  · exact .inr h
theorem Ext.ix (x : Ext F ι H F' ι' H') {k : Nat} {a : Addr} (h : ι[k]? = some a) : ι'[k]? = some a := by
  obtain ⟨t, rfl, _⟩ := x.i
  rw [List.getElem?_append_left (List.getElem?_eq_some_iff.mp h).1]
  exact h
mutual
theorem RV.mono (x : Ext F ι H F' ι' H') : ∀ {d : D} {v : V}, RV K mg F ι d v → RV K mg F' ι' d v
  | _, _, .non => .non
  | _, _, .bl b => .bl b
  | _, _, .int i => .int i
  | _, _, .str i => .str i
  | _, _, .tup h hs => .tup (x.sqt h) (RVs.mono x hs)
  | _, _, .lst h hs => .lst (x.f _ _ h) (RVs.mono x hs)
  | _, _, .scr h hs => .scr (x.sql h) (RVs.mono x hs)
  | _, _, .obj h c hs => .obj (x.f _ _ h) c (RVf.mono x hs)
  | _, _, .ref h => .ref (x.ix h)
  | _, _, .exn h c hs => .exn (x.f _ _ h) c (RVf.mono x hs)
  | _, _, .exn0 c => .exn0 c
  | _, _, .err h h' c hs => .err (x.f _ _ h) (x.f _ _ h') c (RVf.mono x hs)
  | _, _, .err0 h c => .err0 (x.f _ _ h) c
theorem RVs.mono (x : Ext F ι H F' ι' H') : ∀ {d : List D} {v : List V}, RVs K mg F ι d v → RVs K mg F' ι' d v
  | _, _, .nil => .nil
  | _, _, .cons h hs => .cons (RV.mono x h) (RVs.mono x hs)
theorem RVf.mono (x : Ext F ι H F' ι' H') : ∀ {d : List (Str × D)} {v : List (Str × V)}, RVf K mg F ι d v → RVf K mg F' ι' d v
  | _, _, .nil => .nil
  | _, _, .cons h hs => .cons (RV.mono x h) (RVf.mono x hs)
end
theorem RVk.mono (x : Ext F ι H F' ι' H') : ∀ {d : List (Key × D)} {v : List (Key × V)}, RVk K mg F ι d v → RVk K mg F' ι' d v
  | _, _, .nil => .nil
  | _, _, .cons h hs => .cons (RV.mono x h) (RVk.mono x hs)
theorem RM.mono (x : Ext F ι H F' ι' H') {mo : MO} {o : HO} (h : RM K mg F ι mo o) : RM K mg F' ι' mo o := by
  cases mo <;> cases o <;> simp only [RM] at h ⊢ <;> first | exact h.elim | exact RVs.mono x h | exact RVk.mono x h | exact ⟨h.1, RVf.mono x h.2⟩
theorem ER.mono (x : Ext F ι H F' ι' H') {ρ : Env} {σ : St} (h : ER K mg F ι ρ σ) : ER K mg F' ι' ρ σ :=
  ⟨h.1, fun i d e => let ⟨v, a, b⟩ := h.2 i d e; ⟨v, a, b.mono x⟩⟩
theorem ER.set {ρ : Env} {σ : St} (h : ER K mg F ι ρ σ) (i : Nat) {d : D} {v : V} (r : RV K mg F ι d v) : ER K mg F ι (ρ.set i (some d)) (σ.set i (some v)) := by
  refine ⟨by rw [List.length_set, List.length_set, h.1], fun j e q => ?_⟩
  by_cases hj : i = j
  · subst hj
    by_cases hi : i < ρ.length
    · rw [List.getElem?_set_self hi] at q
      cases q
      exact ⟨v, by rw [List.getElem?_set_self (by rw [← h.1]; exact hi)], r⟩
    · rw [List.getElem?_eq_none (by simpa using hi)] at q
      cases q
  · rw [List.getElem?_set_ne hj] at q
    obtain ⟨w, a, b⟩ := h.2 j e q
    exact ⟨w, by rw [List.getElem?_set_ne hj]; exact a, b⟩
theorem ER.wipe1 {ρ : Env} {σ : St} (h : ER K mg F ι ρ σ) (i : Nat) : ER K mg F ι (ρ.set i none) (σ.set i none) := by
  refine ⟨by rw [List.length_set, List.length_set, h.1], fun j e q => ?_⟩
  by_cases hj : i = j
  · subst hj
    by_cases hi : i < ρ.length
    · rw [List.getElem?_set_self hi] at q
      cases q
    · rw [List.getElem?_eq_none (by simpa using hi)] at q
      cases q
  · rw [List.getElem?_set_ne hj] at q
    obtain ⟨w, a, b⟩ := h.2 j e q
    exact ⟨w, by rw [List.getElem?_set_ne hj]; exact a, b⟩
theorem Rel.at {M : Mem} (r : Rel K mg F ι M H) {k : Nat} {mo : MO} (h : M[k]? = some mo) (hd : mo ≠ .dead) : ∃ a o, ι[k]? = some a ∧ F a = none ∧ H a = some o ∧ RM K mg F ι mo o := by
  obtain ⟨a, ha, q | ⟨o, h1, h2, h3⟩⟩ := r.ob k mo h
  · exact absurd q hd
  · exact ⟨a, o, ha, h1, h2, h3⟩
theorem Rel.fnone {M : Mem} (r : Rel K mg F ι M H) {a : Addr} (h : H a = none) : F a = none := by
  cases e : F a with
  | none => rfl
  | some o => rw [r.sub a o e] at h; cases h
/-- a new frozen object -/
theorem Ext.new {M : Mem} (r : Rel K mg F ι M H) {p : Addr} {o : HO} (h : H p = none) : Ext F ι H (upd F p o) ι (upd H p o) := by
  have hf := r.fnone h
  refine ⟨fun a u e => ?_, ⟨[], by simp, by simp⟩, fun a u e _ => ?_, fun a u e hn _ => ?_, fun a u e => ?_⟩
  · rw [upd_ne (ne_of_none e hf)]; exact e
  · rw [upd_ne (ne_of_none e h)]; exact e
  · rw [upd_ne (ne_of_none e h)]; exact hn
  · exact ⟨u, by rw [upd_ne (ne_of_none e h)]; exact e⟩
theorem Rel.new {M : Mem} (r : Rel K mg F ι M H) {p : Addr} {o : HO} (h : H p = none) : Rel K mg (upd F p o) ι M (upd H p o) := by
  have x := Ext.new (o := o) r h
  refine ⟨fun a u e => ?_, r.nd, r.len, fun a ha => let ⟨o, e⟩ := r.hs a ha; x.p a o e, fun k mo e => ?_⟩
  · by_cases q : a = p
    · subst q; rw [upd_same] at e ⊢; exact e
    · rw [upd_ne q] at e ⊢; exact r.sub a u e
  · obtain ⟨a, ha, hd | ⟨u, h1, h2, h3⟩⟩ := r.ob k mo e
    · exact ⟨a, ha, .inl hd⟩
    · exact ⟨a, ha, .inr ⟨u, by rw [upd_ne (ne_of_none h2 h)]; exact h1, by rw [upd_ne (ne_of_none h2 h)]; exact h2, h3.mono x⟩⟩
/-- an untracked new object (or one that changes and that nobody knows) -/
theorem Ext.junk {p : Addr} {o : HO} (h : H p = none) : Ext F ι H F ι (upd H p o) :=
  ⟨fun _ _ e => e, ⟨[], by simp, by simp⟩, fun a u e _ => by rw [upd_ne (ne_of_none e h)]; exact e, fun _ _ _ e _ => e, fun a u e => ⟨u, by rw [upd_ne (ne_of_none e h)]; exact e⟩⟩
theorem Rel.junk {M : Mem} (r : Rel K mg F ι M H) {p : Addr} {o : HO} (h : H p = none) : Rel K mg F ι M (upd H p o) :=
  ⟨fun a u e => by rw [upd_ne (ne_of_none (r.sub a u e) h)]; exact r.sub a u e, r.nd, r.len, fun a ha => let ⟨u, e⟩ := r.hs a ha; ⟨u, by rw [upd_ne (ne_of_none e h)]; exact e⟩, fun k mo e => by
    obtain ⟨a, ha, hd | ⟨u, h1, h2, h3⟩⟩ := r.ob k mo e
    · exact ⟨a, ha, .inl hd⟩
    · exact ⟨a, ha, .inr ⟨u, h1, by rw [upd_ne (ne_of_none h2 h)]; exact h2, h3⟩⟩⟩
/-- a new mutable object -/
theorem Ext.alloc {p : Addr} {o : HO} (h : H p = none) : Ext F ι H F (ι ++ [p]) (upd H p o) := by
  refine ⟨fun _ _ e => e, ⟨[p], rfl, fun a ha => by rw [List.mem_singleton.mp ha]; exact h⟩, fun a u e _ => ?_, fun a u e hn _ => hn, fun a u e => ?_⟩
  · rw [upd_ne (ne_of_none e h)]; exact e
  · exact ⟨u, by rw [upd_ne (ne_of_none e h)]; exact e⟩
theorem Rel.alloc {M : Mem} (r : Rel K mg F ι M H) {p : Addr} {o : HO} {mo : MO} (h : H p = none) (q : RM K mg F (ι ++ [p]) mo o) : Rel K mg F (ι ++ [p]) (M ++ [mo]) (upd H p o) := by
  have x : Ext F ι H F (ι ++ [p]) (upd H p o) := Ext.alloc h
  have hp : p ∉ ι := fun hm => by
    obtain ⟨u, e⟩ := r.hs p hm
    rw [h] at e; cases e
  refine ⟨fun a u e => by rw [upd_ne (ne_of_none (r.sub a u e) h)]; exact r.sub a u e, ?_, by simp [r.len], fun a ha => ?_, fun k mo' e => ?_⟩
  · rw [List.nodup_append]
    exact ⟨r.nd, by simp, fun a ha b hb => by rw [List.mem_singleton.mp hb]; exact fun z => hp (z ▸ ha)⟩
  · rcases List.mem_append.mp ha with q | q
    · obtain ⟨u, e⟩ := r.hs a q
      exact x.p a u e
    · rw [List.mem_singleton.mp q]
      exact ⟨o, upd_same⟩
  · by_cases hk : k < M.length
    · rw [List.getElem?_append_left hk] at e
      obtain ⟨a, ha, hd | ⟨u, h1, h2, h3⟩⟩ := r.ob k mo' e
      · exact ⟨a, x.ix ha, .inl hd⟩
      · exact ⟨a, x.ix ha, .inr ⟨u, h1, by rw [upd_ne (ne_of_none h2 h)]; exact h2, h3.mono x⟩⟩
    · have hk' : k = M.length := by
        have z := (List.getElem?_eq_some_iff.mp e).1
        rw [List.length_append, List.length_singleton] at z
        omega
      subst hk'
      rw [List.getElem?_append_right (Nat.le_refl _), Nat.sub_self] at e
      cases e
      exact ⟨p, by rw [← r.len, List.getElem?_append_right (Nat.le_refl _), Nat.sub_self]; rfl, .inr ⟨o, r.fnone h, upd_same, q⟩⟩
theorem nodup_get {ι : List Addr} (hN : ι.Nodup) {i j : Nat} {x : Addr} (a : ι[i]? = some x) (b : ι[j]? = some x) : i = j := by
  obtain ⟨h1, e1⟩ := List.getElem?_eq_some_iff.mp a
  obtain ⟨h2, e2⟩ := List.getElem?_eq_some_iff.mp b
  exact (List.getElem_inj hN).mp (e1.trans e2.symm)
theorem mem_ix {ι : List Addr} {k : Nat} {a : Addr} (h : ι[k]? = some a) : a ∈ ι := List.mem_of_getElem? h
/-- a mutable object changes -/
theorem Ext.set {k : Nat} {a : Addr} {o : HO} (hk : ι[k]? = some a) : Ext F ι H F ι (upd H a o) := by
  have hm := mem_ix hk
  refine ⟨fun _ _ e => e, ⟨[], by simp, by simp⟩, fun b u e hb => ?_, fun _ _ _ e _ => e, fun b u e => ?_⟩
  · rw [upd_ne (fun z => hb (by rw [z]; exact hm))]; exact e
  · by_cases q : b = a
    · subst q; exact ⟨o, upd_same⟩
    · exact ⟨u, by rw [upd_ne q]; exact e⟩
theorem Rel.set {M : Mem} (r : Rel K mg F ι M H) {k : Nat} {a : Addr} {o : HO} {mo mo' : MO} (hM : M[k]? = some mo) (hd : mo ≠ .dead) (hk : ι[k]? = some a) (q : RM K mg F ι mo' o) : Rel K mg F ι (M.set k mo') (upd H a o) := by
  have x : Ext F ι H F ι (upd H a o) := Ext.set hk
  obtain ⟨a', o', ha', hf, hh, _⟩ := r.at hM hd
  rw [hk] at ha'; cases ha'
  refine ⟨fun b u e => ?_, r.nd, by rw [List.length_set]; exact r.len, fun b hb => let ⟨u, e⟩ := r.hs b hb; x.p b u e, fun j mo'' e => ?_⟩
  · rw [upd_ne (ne_of_none e hf)]; exact r.sub b u e
  · by_cases hj : k = j
    · subst hj
      rw [List.getElem?_set_self (List.getElem?_eq_some_iff.mp hM).1] at e
      cases e
      exact ⟨a, hk, .inr ⟨o, hf, upd_same, q⟩⟩
    · rw [List.getElem?_set_ne hj] at e
      obtain ⟨b, hb, hdd | ⟨u, h1, h2, h3⟩⟩ := r.ob j mo'' e
      · exact ⟨b, hb, .inl hdd⟩
      · have nb : b ≠ a := fun z => hj (nodup_get r.nd hk (z ▸ hb))
        exact ⟨b, hb, .inr ⟨u, h1, by rw [upd_ne nb]; exact h2, h3⟩⟩
/-- a mutable object is frozen -/
theorem Ext.frz {k : Nat} {a : Addr} {o : HO} (hk : ι[k]? = some a) (hf : F a = none) : Ext F ι H (upd F a o) ι H := by
  have hm := mem_ix hk
  exact ⟨fun b u e => by rw [upd_ne (ne_of_none e hf)]; exact e, ⟨[], by simp, by simp⟩, fun b u e _ => e, fun b u e hn hb => by rw [upd_ne (fun z => hb (by rw [z]; exact hm))]; exact hn, fun b u e => ⟨u, e⟩⟩
theorem Rel.frz {M : Mem} (r : Rel K mg F ι M H) {k : Nat} {a : Addr} {o : HO} (hk : ι[k]? = some a) (hf : F a = none) (ho : H a = some o) : Rel K mg (upd F a o) ι (M.set k .dead) H := by
  have x : Ext F ι H (upd F a o) ι H := Ext.frz hk hf
  refine ⟨fun b u e => ?_, r.nd, by rw [List.length_set]; exact r.len, r.hs, fun j mo'' e => ?_⟩
  · by_cases q : b = a
    · subst q; rw [upd_same] at e; cases e; exact ho
    · rw [upd_ne q] at e; exact r.sub b u e
  · by_cases hj : k = j
    · subst hj
      have hl : k < M.length := by rw [← r.len]; exact (List.getElem?_eq_some_iff.mp hk).1
      rw [List.getElem?_set_self hl] at e
      cases e
      exact ⟨a, hk, .inl rfl⟩
    · rw [List.getElem?_set_ne hj] at e
      obtain ⟨b, hb, hdd | ⟨u, h1, h2, h3⟩⟩ := r.ob j mo'' e
      · exact ⟨b, hb, .inl hdd⟩
      · have nb : b ≠ a := fun z => hj (nodup_get r.nd hk (z ▸ hb))
        exact ⟨b, hb, .inr ⟨u, by rw [upd_ne nb]; exact h1, h2, h3.mono x⟩⟩

/-! ### what a result wants -/
/-- an exception's own fields -/
def XR (K : PySem.W.Frag) (mg : Str → Option Value) (F : Hp) (ι : List Addr) (fs : List (Str × D)) (d : Option Addr) : Prop :=
  (fs = [] ∧ d = none) ∨ ∃ dx gs, d = some dx ∧ F dx = some (.xd gs) ∧ RVf K mg F ι fs gs
theorem XR.mono (x : Ext F ι H F' ι' H') {fs : List (Str × D)} {d : Option Addr} (h : XR K mg F ι fs d) : XR K mg F' ι' fs d := by
  rcases h with h | ⟨dx, gs, h1, h2, h3⟩
  · exact .inl h
  · exact .inr ⟨dx, gs, h1, x.f _ _ h2, RVf.mono x h3⟩
def OkG {α β : Type} (rel : Hp → List Addr → α → β → Prop) (K : PySem.W.Frag) (mg : Str → Option Value) (F : Hp) (ι : List Addr) (H : Hp) (r : R α) (Q : β → Hp → Prop) (E : XK) : Prop := match r with
  | .ok d M' => ∀ F' ι' H' v, Ext F ι H F' ι' H' → Rel K mg F' ι' M' H' → rel F' ι' d v → Q v H'
  | .exc c fs M' => ∀ F' ι' H' C d, Ext F ι H F' ι' H' → Rel K mg F' ι' M' H' → mg c = some (.ref C) → XR K mg F' ι' fs d → E (.ref C) d H'
  | .stuck => False
variable {α β γ δ : Type} {rel : Hp → List Addr → α → β → Prop} {rel' : Hp → List Addr → γ → δ → Prop}
theorem OkG.step (x : Ext F ι H F' ι' H') {r : R α} {Q : β → Hp → Prop} {E : XK} (h : OkG rel K mg F ι H r Q E) : OkG rel K mg F' ι' H' r Q E := by
  cases r with
  | ok d M' => exact fun F2 ι2 H2 v y rl rv => h F2 ι2 H2 v (x.trans y) rl rv
  | exc c fs M' => exact fun F2 ι2 H2 C d y rl hc hx => h F2 ι2 H2 C d (x.trans y) rl hc hx
  | stuck => exact h
theorem OkG.imp {r : R α} {Q Q' : β → Hp → Prop} {E : XK} (h : OkG rel K mg F ι H r Q E) (hq : ∀ v H', Q v H' → Q' v H') : OkG rel K mg F ι H r Q' E := by
  cases r with
  | ok d M' => exact fun F2 ι2 H2 v y rl rv => hq _ _ (h F2 ι2 H2 v y rl rv)
  | exc c fs M' => exact h
  | stuck => exact h
theorem OkG.bind {r : R α} {f : α → Mem → R γ} {Q : δ → Hp → Prop} {E : XK} (h : OkG rel' K mg F ι H (r.bind f) Q E) :
    OkG rel K mg F ι H r (fun v H1 => ∃ d M1 F1 ι1, Ext F ι H F1 ι1 H1 ∧ Rel K mg F1 ι1 M1 H1 ∧ rel F1 ι1 d v ∧ OkG rel' K mg F1 ι1 H1 (f d M1) Q E) E := by
  cases r with
  | ok d M' => exact fun F2 ι2 H2 v y rl rv => ⟨d, M', F2, ι2, y, rl, rv, OkG.step y h⟩
  | exc c fs M' => exact h
  | stuck => exact h
theorem OkG.ok {a : α} {M : Mem} {v : β} {Q : β → Hp → Prop} {E : XK} (h : OkG rel K mg F ι H (.ok a M) Q E) (r : Rel K mg F ι M H) (rv : rel F ι a v) : Q v H := h F ι H v Ext.refl r rv
abbrev OkE (K : PySem.W.Frag) (mg : Str → Option Value) := OkG (RV K mg) K mg
abbrev OkT (K : PySem.W.Frag) (mg : Str → Option Value) := OkG (fun _ _ (a b : Bool) => a = b) K mg
abbrev OkA (K : PySem.W.Frag) (mg : Str → Option Value) := OkG (RVs K mg) K mg
def OkS (K : PySem.W.Frag) (mg : Str → Option Value) (F : Hp) (ι : List Addr) (H : Hp) (r : SR) (Dn : Ends) (W : WX) : Prop := match r with
  | .next ρ M => ∀ F' ι' H' σ, Ext F ι H F' ι' H' → Rel K mg F' ι' M H' → ER K mg F' ι' ρ σ → Dn.nx σ H'
  | .brk ρ M => ∀ F' ι' H' σ, Ext F ι H F' ι' H' → Rel K mg F' ι' M H' → ER K mg F' ι' ρ σ → Dn.bk σ H'
  | .cnt ρ M => ∀ F' ι' H' σ, Ext F ι H F' ι' H' → Rel K mg F' ι' M H' → ER K mg F' ι' ρ σ → Dn.ct σ H'
  | .ret d M => ∀ F' ι' H' v, Ext F ι H F' ι' H' → Rel K mg F' ι' M H' → RV K mg F' ι' d v → Dn.rt v H'
  | .exc c fs ρ M => ∀ F' ι' H' σ C d, Ext F ι H F' ι' H' → Rel K mg F' ι' M H' → ER K mg F' ι' ρ σ → mg c = some (.ref C) → XR K mg F' ι' fs d → W (.ref C) d σ H'
  | .stuck => False
theorem OkS.step (x : Ext F ι H F' ι' H') {r : SR} {Dn : Ends} {W : WX} (h : OkS K mg F ι H r Dn W) : OkS K mg F' ι' H' r Dn W := by
  cases r with
  | next ρ M => exact fun F2 ι2 H2 v y rl rv => h F2 ι2 H2 v (x.trans y) rl rv
  | brk ρ M => exact fun F2 ι2 H2 v y rl rv => h F2 ι2 H2 v (x.trans y) rl rv
  | cnt ρ M => exact fun F2 ι2 H2 v y rl rv => h F2 ι2 H2 v (x.trans y) rl rv
  | ret d M => exact fun F2 ι2 H2 v y rl rv => h F2 ι2 H2 v (x.trans y) rl rv
  | exc c fs ρ M => exact fun F2 ι2 H2 σ C d y rl er hc hx => h F2 ι2 H2 σ C d (x.trans y) rl er hc hx
  | stuck => exact h
theorem OkS.imp {r : SR} {Dn Dn' : Ends} {W W' : WX} (h : OkS K mg F ι H r Dn W) (h1 : ∀ σ H', Dn.nx σ H' → Dn'.nx σ H') (h2 : ∀ σ H', Dn.bk σ H' → Dn'.bk σ H') (h3 : ∀ σ H', Dn.ct σ H' → Dn'.ct σ H') (h4 : ∀ v H', Dn.rt v H' → Dn'.rt v H')
    (h5 : ∀ c d σ H', W c d σ H' → W' c d σ H') : OkS K mg F ι H r Dn' W' := by
  cases r with
  | next ρ M => exact fun F2 ι2 H2 v y rl rv => h1 _ _ (h F2 ι2 H2 v y rl rv)
  | brk ρ M => exact fun F2 ι2 H2 v y rl rv => h2 _ _ (h F2 ι2 H2 v y rl rv)
  | cnt ρ M => exact fun F2 ι2 H2 v y rl rv => h3 _ _ (h F2 ι2 H2 v y rl rv)
  | ret d M => exact fun F2 ι2 H2 v y rl rv => h4 _ _ (h F2 ι2 H2 v y rl rv)
  | exc c fs ρ M => exact fun F2 ι2 H2 σ C d y rl er hc hx => h5 _ _ _ _ (h F2 ι2 H2 σ C d y rl er hc hx)
  | stuck => exact h
end
end MP
set_option maxRecDepth 100000
set_option maxHeartbeats 4000000
namespace MP
open PySem L2

def SE (X : Cx) (W : WX) (Γ : Calls) (e : Expr) (s : ES) : Prop :=
  ∃ te : TE, PE X e te ∧ ∀ ρ M F ι σ H Q, Rel X.K X.mg F ι M H → ER X.K X.mg F ι ρ σ → OkE X.K X.mg F ι H (s Γ ρ M) Q (WE W σ) → te σ H Q
def ST (X : Cx) (W : WX) (Γ : Calls) (e : Expr) (s : TSm) : Prop :=
  ∃ te : TT, PT X e te ∧ ∀ ρ M F ι σ H Q, Rel X.K X.mg F ι M H → ER X.K X.mg F ι ρ σ → OkT X.K X.mg F ι H (s Γ ρ M) Q (WE W σ) → te σ H Q
def SW (X : Cx) (W : WX) (Γ : Calls) (e : Expr) (s : TSm) : Prop :=
  ∃ te : TT, PW X e te ∧ ∀ ρ M F ι σ H Q, Rel X.K X.mg F ι M H → ER X.K X.mg F ι ρ σ → OkT X.K X.mg F ι H (s Γ ρ M) Q (WE W σ) → te σ H Q
def SA (X : Cx) (W : WX) (Γ : Calls) (es : List Expr) (s : AS) : Prop :=
  ∃ te : TA, PA X es te ∧ ∀ ρ M F ι σ H Q, Rel X.K X.mg F ι M H → ER X.K X.mg F ι ρ σ → OkA X.K X.mg F ι H (s Γ ρ M) Q (WE W σ) → te σ H Q

section
variable {X : Cx} {W : WX} {Γ : Calls} {a b c : Expr} {sa sb sc : ES} {pos : Pos}

/-! ### names, constants -/
def eVar (i : Nat) : ES := fun _ ρ M => match ρ[i]? with
  | some (some d) => .ok d M
  | _ => .stuck
theorem se_var (i : Nat) {x : Str} {pos : Pos} (hN : X.N[i]? = some x := by rfl) (hv : Vis X.env.scope x := by first | exact Or.inl rfl | exact Or.inr (Or.inl rfl) | exact Or.inr (Or.inr rfl)) (hd : (x == ("__debug__" : Str)) = false := by decide)
    (hcd : (x == ("__classdict__" : Str)) = false := by decide) : SE X W Γ (.Name x pos) (eVar i) := by
  refine ⟨_, pe_var hN hv hd hcd, fun ρ M F ι σ H Q rl er h => ?_⟩
  unfold eVar at h
  split at h
  · rename_i d e
    obtain ⟨v, e1, rv⟩ := er.2 i d e
    exact ⟨v, e1, h.ok rl rv⟩
  · exact h.elim
def eC (d : D) : ES := fun _ _ M => .ok d M
theorem se_int {i j pos} : SE X W Γ (.Constant (.int i) j pos) (eC (.int i)) := ⟨_, pe_int, fun ρ M F ι σ H Q rl er h => h.ok rl (.int i)⟩
theorem se_bl {i j pos} : SE X W Γ (.Constant (.bool i) j pos) (eC (.bl i)) := ⟨_, pe_bl, fun ρ M F ι σ H Q rl er h => h.ok rl (.bl i)⟩
theorem se_non {j pos} : SE X W Γ (.Constant .none j pos) (eC .non) := ⟨_, pe_non, fun ρ M F ι σ H Q rl er h => h.ok rl .non⟩
theorem se_str {x j pos} : SE X W Γ (.Constant (.str x) j pos) (eC (.str x)) := ⟨_, pe_str, fun ρ M F ι σ H Q rl er h => h.ok rl (.str x)⟩
/-- a module's constant -/
theorem se_glob {x : Str} {d : D} {pos : Pos} (hg : Gl X x) (h : ∃ v u, X.mg x = some u ∧ RelV v u ∧ ∀ F ι, RV X.K X.mg F ι d v) (hd : (x == ("__debug__" : Str)) = false := by decide) : SE X W Γ (.Name x pos) (eC d) := by
  obtain ⟨v, u, hm, r, hv⟩ := h
  exact ⟨_, pe_glob hg hm r hd, fun ρ M F ι σ H Q rl er h => h.ok rl (hv F ι)⟩

/-! ### operators by values -/
def O2 (K : PySem.W.Frag) (mg : Str → Option Value) (r : R2) (f : Mem → D → D → Option D) : Prop := ∀ F ι M H (Q : VK) x y z u v, Rel K mg F ι M H → RV K mg F ι x u → RV K mg F ι y v → f M x y = some z →
  (∀ F' ι' H' w, Ext F ι H F' ι' H' → Rel K mg F' ι' M H' → RV K mg F' ι' z w → Q w H') → r u v H Q
def O1 (K : PySem.W.Frag) (mg : Str → Option Value) (r : List V → Hp → VK → Prop) (f : Mem → List D → Option D) : Prop := ∀ F ι M H (Q : VK) x z u, Rel K mg F ι M H → RVs K mg F ι x u → f M x = some z →
  (∀ F' ι' H' w, Ext F ι H F' ι' H' → Rel K mg F' ι' M H' → RV K mg F' ι' z w → Q w H') → r u H Q
theorem O2.or {K : PySem.W.Frag} {mg : Str → Option Value} {r r' : R2} {f f' : Mem → D → D → Option D} (h : O2 K mg r f) (h' : O2 K mg r' f') : O2 K mg (fun x y H Q => r x y H Q ∨ r' x y H Q) (fun M x y => (f M x y).or (f' M x y)) := by
  intro F ι M H Q x y z u v rl rx ry e k
  dsimp only at e
  cases q : f M x y with
  | some z' => rw [q] at e; cases e; exact .inl (h F ι M H Q x y _ u v rl rx ry q k)
  | none => rw [q] at e; exact .inr (h' F ι M H Q x y z u v rl rx ry e k)
theorem O1.or {K : PySem.W.Frag} {mg : Str → Option Value} {r r' : List V → Hp → VK → Prop} {f f' : Mem → List D → Option D} (h : O1 K mg r f) (h' : O1 K mg r' f') : O1 K mg (fun x H Q => r x H Q ∨ r' x H Q) (fun M x => (f M x).or (f' M x)) := by
  intro F ι M H Q x z u rl rx e k
  dsimp only at e
  cases q : f M x with
  | some z' => rw [q] at e; cases e; exact .inl (h F ι M H Q x _ u rl rx q k)
  | none => rw [q] at e; exact .inr (h' F ι M H Q x z u rl rx e k)
theorem q_fin {K : PySem.W.Frag} {mg : Str → Option Value} {F : Hp} {ι : List Addr} {M : Mem} {H : Hp} {Q : VK} {z : D} {w : V} (k : ∀ F' ι' H' w, Ext F ι H F' ι' H' → Rel K mg F' ι' M H' → RV K mg F' ι' z w → Q w H') (rl : Rel K mg F ι M H) (h : RV K mg F ι z w) : Q w H :=
  k F ι H w Ext.refl rl h
theorem q_newL {K : PySem.W.Frag} {mg : Str → Option Value} {F : Hp} {ι : List Addr} {M : Mem} {H : Hp} {Q : VK} {ds : List D} {vs : List V} (k : ∀ F' ι' H' w, Ext F ι H F' ι' H' → Rel K mg F' ι' M H' → RV K mg F' ι' (.lst ds) w → Q w H') (rl : Rel K mg F ι M H) (h : RVs K mg F ι ds vs) {p : Addr} (hp : H p = none) :
    Q (.ref p) (upd H p (.lst vs)) := k _ ι _ _ (Ext.new rl hp) (rl.new hp) (.lst upd_same (h.mono (Ext.new (o := .lst vs) rl hp)))
theorem q_newT {K : PySem.W.Frag} {mg : Str → Option Value} {F : Hp} {ι : List Addr} {M : Mem} {H : Hp} {Q : VK} {ds : List D} {vs : List V} (k : ∀ F' ι' H' w, Ext F ι H F' ι' H' → Rel K mg F' ι' M H' → RV K mg F' ι' (.tup ds) w → Q w H') (rl : Rel K mg F ι M H) (h : RVs K mg F ι ds vs) {p : Addr} (hp : H p = none) :
    Q (.ref p) (upd H p (.tup vs)) := k _ ι _ _ (Ext.new rl hp) (rl.new hp) (.tup (SqT.of upd_same) (h.mono (Ext.new (o := .tup vs) rl hp)))
def e2 (f : Mem → D → D → Option D) (a b : ES) : ES := fun Γ ρ M => (a Γ ρ M).bind fun x M1 => (b Γ ρ M1).bind fun y M2 => R.opt (f M2 x y) M2
theorem okopt {K : PySem.W.Frag} {mg : Str → Option Value} {F : Hp} {ι : List Addr} {H : Hp} {o : Option D} {M : Mem} {Q : VK} {E : XK} (h : OkE K mg F ι H (R.opt o M) Q E) : ∃ z, o = some z ∧ ∀ F' ι' H' w, Ext F ι H F' ι' H' → Rel K mg F' ι' M H' → RV K mg F' ι' z w → Q w H' := by
  cases o with
  | none => exact h.elim
  | some z => exact ⟨z, rfl, h⟩
theorem run2 {ta tb : TE} {f : Mem → D → D → Option D} {r : R2} (ha : ∀ ρ M F ι σ H Q, Rel X.K X.mg F ι M H → ER X.K X.mg F ι ρ σ → OkE X.K X.mg F ι H (sa Γ ρ M) Q (WE W σ) → ta σ H Q)
    (hb : ∀ ρ M F ι σ H Q, Rel X.K X.mg F ι M H → ER X.K X.mg F ι ρ σ → OkE X.K X.mg F ι H (sb Γ ρ M) Q (WE W σ) → tb σ H Q) (hf : O2 X.K X.mg r f) :
    ∀ ρ M F ι σ H Q, Rel X.K X.mg F ι M H → ER X.K X.mg F ι ρ σ → OkE X.K X.mg F ι H (e2 f sa sb Γ ρ M) Q (WE W σ) → tOp r ta tb σ H Q := by
  intro ρ M F ι σ H Q rl er h
  refine ha ρ M F ι σ H _ rl er (h.bind.imp fun v H1 hv => ?_)
  obtain ⟨d, M1, F1, ι1, x1, rl1, rv1, h1⟩ := hv
  refine hb ρ M1 F1 ι1 σ H1 _ rl1 (er.mono x1) (h1.bind.imp fun u H2 hu => ?_)
  obtain ⟨e, M2, F2, ι2, x2, rl2, rv2, h2⟩ := hu
  obtain ⟨z, hz, k⟩ := okopt h2
  exact hf F2 ι2 M2 H2 Q d e z v u rl2 (rv1.mono x2) rv2 hz k
theorem se_bin {op : Operator} {r : R2} {f : Mem → D → D → Option D} (ho : OpR X (binaryOp op) r) (hf : O2 X.K X.mg r f) (ha : SE X W Γ a sa) (hb : SE X W Γ b sb) : SE X W Γ (.BinOp a op b pos) (e2 f sa sb) := by
  obtain ⟨ta, pa, ka⟩ := ha
  obtain ⟨tb, pb, kb⟩ := hb
  exact ⟨_, pe_op ho pa pb, run2 ka kb hf⟩
theorem se_cmp {op : CmpOp} {r : R2} {f : Mem → D → D → Option D} (ho : OpR X (compareOp op) r) (hf : O2 X.K X.mg r f) (ha : SE X W Γ a sa) (hb : SE X W Γ b sb) (hm : behindInMarks op b = false) : SE X W Γ (.Compare a [op] [b] pos) (e2 f sa sb) := by
  obtain ⟨ta, pa, ka⟩ := ha
  obtain ⟨tb, pb, kb⟩ := hb
  exact ⟨_, pe_cmpR ho pa pb hm, run2 ka kb hf⟩
theorem se_ix {r : R2} {f : Mem → D → D → Option D} (ho : IxR X r) (hf : O2 X.K X.mg r f) (ha : SE X W Γ a sa) (hb : SE X W Γ b sb) (hs : PlainIx b) : SE X W Γ (.Subscript a b pos) (e2 f sa sb) := by
  obtain ⟨ta, pa, ka⟩ := ha
  obtain ⟨tb, pb, kb⟩ := hb
  exact ⟨_, pe_ix ho pa pb hs, run2 ka kb hf⟩

/-! ### arguments, calls of built-ins -/
def aNil : AS := fun _ _ M => .ok [] M
def aCons (a : ES) (r : AS) : AS := fun Γ ρ M => (a Γ ρ M).bind fun x M1 => (r Γ ρ M1).bind fun xs M2 => .ok (x :: xs) M2
theorem sa_nil : SA X W Γ [] aNil := ⟨_, pa_nil, fun ρ M F ι σ H Q rl er h => h.ok rl .nil⟩
theorem sa_cons {es : List Expr} {sr : AS} (ha : SE X W Γ a sa) (hr : SA X W Γ es sr) (hs : starEach (a :: es) X.env = (false, eval a X.env) :: starEach es X.env := by rfl) : SA X W Γ (a :: es) (aCons sa sr) := by
  obtain ⟨ta, pa, ka⟩ := ha
  obtain ⟨tr, pr, kr⟩ := hr
  refine ⟨_, pa_cons pa pr hs, fun ρ M F ι σ H Q rl er h => ?_⟩
  refine ka ρ M F ι σ H _ rl er (OkG.bind h |>.imp fun v H1 hv => ?_)
  obtain ⟨d, M1, F1, ι1, x1, rl1, rv1, h1⟩ := hv
  refine kr ρ M1 F1 ι1 σ H1 _ rl1 (er.mono x1) (OkG.bind h1 |>.imp fun u H2 hu => ?_)
  obtain ⟨e, M2, F2, ι2, x2, rl2, rv2, h2⟩ := hu
  exact h2.ok rl2 (.cons (rv1.mono x2) rv2)
def eB (f : Mem → List D → Option D) (a : AS) : ES := fun Γ ρ M => (a Γ ρ M).bind fun x M1 => R.opt (f M1 x) M1
theorem runB {es : List Expr} {t : TA} {sr : AS} {f : Mem → List D → Option D} {r : List V → Hp → VK → Prop}
    (ha : ∀ ρ M F ι σ H Q, Rel X.K X.mg F ι M H → ER X.K X.mg F ι ρ σ → OkA X.K X.mg F ι H (sr Γ ρ M) Q (WE W σ) → t σ H Q) (hf : O1 X.K X.mg r f) :
    ∀ ρ M F ι σ H Q, Rel X.K X.mg F ι M H → ER X.K X.mg F ι ρ σ → OkE X.K X.mg F ι H (eB f sr Γ ρ M) Q (WE W σ) → tCB r t σ H Q := by
  intro ρ M F ι σ H Q rl er h
  refine ha ρ M F ι σ H _ rl er (OkG.bind h |>.imp fun v H1 hv => ?_)
  obtain ⟨d, M1, F1, ι1, x1, rl1, rv1, h1⟩ := hv
  obtain ⟨z, hz, k⟩ := okopt h1
  exact hf F1 ι1 M1 H1 Q d z v rl1 rv1 hz k
theorem se_callB {x : Str} {id : String} {es : List Expr} {sr : AS} {p : Pos} {f : Mem → List D → Option D} {r : List V → Hp → VK → Prop} (hc : CallR X (.builtin id) r) (hf : O1 X.K X.mg r f) (hm : X.mg x = none) (hv : bootBuiltins x = some (.builtin id)) (ha : SA X W Γ (a :: es) sr)
    (hg : Gl X x := by rfl) (hn : x ≠ "__name__" := by decide) (hdb : (x == ("__debug__" : Str)) = false := by decide) (he : starEach (a :: es) X.env = (false, eval a X.env) :: starEach es X.env := by rfl) (hpl : (backTo pos (starEach es X.env)).any (·.1) = false := by rfl) :
    SE X W Γ (.Call (.Name x p) (a :: es) [] pos) (eB f sr) := by
  obtain ⟨t, pt, kt⟩ := ha
  exact ⟨_, pe_callB hc hg hm hv pt hn hdb he hpl, runB (es := a :: es) kt hf⟩
theorem se_callTy {x : Str} {T : String} {es : List Expr} {sr : AS} {p : Pos} {f : Mem → List D → Option D} {r : List V → Hp → VK → Prop} (hc : CallR X (.type T) r) (hf : O1 X.K X.mg r f) (hm : X.mg x = none) (hv : bootBuiltins x = some (.type T)) (ha : SA X W Γ (a :: es) sr)
    (hg : Gl X x := by rfl) (hn : x ≠ "__name__" := by decide) (hdb : (x == ("__debug__" : Str)) = false := by decide) (he : starEach (a :: es) X.env = (false, eval a X.env) :: starEach es X.env := by rfl) (hpl : (backTo pos (starEach es X.env)).any (·.1) = false := by rfl) :
    SE X W Γ (.Call (.Name x p) (a :: es) [] pos) (eB f sr) := by
  obtain ⟨t, pt, kt⟩ := ha
  exact ⟨_, pe_callTy hc hg hm hv pt hn hdb he hpl, runB (es := a :: es) kt hf⟩

/-! ### displays -/
def eTup (a : AS) : ES := fun Γ ρ M => (a Γ ρ M).bind fun xs M1 => if xs.length ≤ sizeLine then .ok (.tup xs) M1 else .stuck
def eLst (a : AS) : ES := fun Γ ρ M => (a Γ ρ M).bind fun xs M1 => if xs.length ≤ sizeLine then .ok (.lst xs) M1 else .stuck
/-- a list that will change -/
def eLstM (a : AS) : ES := fun Γ ρ M => (a Γ ρ M).bind fun xs M1 => if xs.length ≤ sizeLine then .ok (.ref M1.length) (M1 ++ [.lst xs]) else .stuck
theorem RVs.len {K : PySem.W.Frag} {mg : Str → Option Value} {F : Hp} {ι : List Addr} : ∀ {ds : List D} {vs : List V}, RVs K mg F ι ds vs → ds.length = vs.length
  | _, _, .nil => rfl
  | _, _, .cons _ h => by rw [List.length_cons, List.length_cons, RVs.len h]
theorem se_tup {es : List Expr} {sr : AS} {x1} (ha : SA X W Γ es sr) : SE X W Γ (.Tuple es x1 pos) (eTup sr) := by
  obtain ⟨t, pt, kt⟩ := ha
  refine ⟨_, pe_tup pt, fun ρ M F ι σ H Q rl er h => ?_⟩
  refine kt ρ M F ι σ H _ rl er (OkG.bind h |>.imp fun v H1 hv => ?_)
  obtain ⟨d, M1, F1, ι1, x1, rl1, rv1, h1⟩ := hv
  split at h1
  · rename_i hz
    exact ⟨by rw [← rv1.len]; exact hz, fun p hp => q_newT h1 rl1 rv1 hp⟩
  · exact h1.elim
theorem se_lst {es : List Expr} {sr : AS} (ha : SA X W Γ es sr) : SE X W Γ (.List es pos) (eLst sr) := by
  obtain ⟨t, pt, kt⟩ := ha
  refine ⟨_, pe_lst pt, fun ρ M F ι σ H Q rl er h => ?_⟩
  refine kt ρ M F ι σ H _ rl er (OkG.bind h |>.imp fun v H1 hv => ?_)
  obtain ⟨d, M1, F1, ι1, x1, rl1, rv1, h1⟩ := hv
  split at h1
  · rename_i hz
    exact ⟨by rw [← rv1.len]; exact hz, fun p hp => q_newL h1 rl1 rv1 hp⟩
  · exact h1.elim
theorem se_lstM {es : List Expr} {sr : AS} (ha : SA X W Γ es sr) : SE X W Γ (.List es pos) (eLstM sr) := by
  obtain ⟨t, pt, kt⟩ := ha
  refine ⟨_, pe_lst pt, fun ρ M F ι σ H Q rl er h => ?_⟩
  refine kt ρ M F ι σ H _ rl er (OkG.bind h |>.imp fun v H1 hv => ?_)
  obtain ⟨d, M1, F1, ι1, x1, rl1, rv1, h1⟩ := hv
  split at h1
  · rename_i hz
    refine ⟨by rw [← rv1.len]; exact hz, fun p hp => ?_⟩
    have x : Ext F1 ι1 H1 F1 (ι1 ++ [p]) (upd H1 p (.lst v)) := Ext.alloc hp
    exact h1 _ _ _ _ x (rl1.alloc hp (rv1.mono x)) (.ref (by rw [← rl1.len, List.getElem?_append_right (Nat.le_refl _), Nat.sub_self]; rfl))
  · exact h1.elim

/-! ### tests -/
def tVal (a : ES) : TSm := fun Γ ρ M => (a Γ ρ M).bind fun x M1 => match x with
  | .bl k => .ok k M1
  | _ => .stuck
theorem OkT.ok' {K : PySem.W.Frag} {mg : Str → Option Value} {F : Hp} {ι : List Addr} {H : Hp} {k : Bool} {M : Mem} {Q : Bool → Hp → Prop} {E : XK} (h : OkT K mg F ι H (.ok k M) Q E) (r : Rel K mg F ι M H) : Q k H := h F ι H k Ext.refl r rfl
theorem runV {ta : TE} (ka : ∀ ρ M F ι σ H Q, Rel X.K X.mg F ι M H → ER X.K X.mg F ι ρ σ → OkE X.K X.mg F ι H (sa Γ ρ M) Q (WE W σ) → ta σ H Q) :
    ∀ ρ M F ι σ H Q, Rel X.K X.mg F ι M H → ER X.K X.mg F ι ρ σ → OkT X.K X.mg F ι H (tVal sa Γ ρ M) Q (WE W σ) → ta σ H fun x H' => ∃ k, x = .bl k ∧ Q k H' := by
  intro ρ M F ι σ H Q rl er h
  refine ka ρ M F ι σ H _ rl er (OkG.bind h |>.imp fun v H1 hv => ?_)
  obtain ⟨d, M1, F1, ι1, x1, rl1, rv1, h1⟩ := hv
  cases rv1 with
  | bl k => exact ⟨k, rfl, OkT.ok' h1 rl1⟩
  | _ => exact h1.elim
theorem st_cmp {op : CmpOp} {r : R2} {f : Mem → D → D → Option D} (ho : OpR X (compareOp op) r) (hf : O2 X.K X.mg r f) (ha : SE X W Γ a sa) (hb : SE X W Γ b sb) (hm : behindInMarks op b = false) : ST X W Γ (.Compare a [op] [b] pos) (tVal (e2 f sa sb)) := by
  obtain ⟨ta, pa, ka⟩ := ha
  obtain ⟨tb, pb, kb⟩ := hb
  exact ⟨_, pt_cmpR ho pa pb hm, runV (run2 ka kb hf)⟩
theorem st_val {e : Expr} {s : ES} (h : SE X W Γ e s) (he : ∀ whole, isTrue e X.env whole = (do let v ← whole; standAt e.pos; holding [v] (truthy v)) := by intro _; rfl) : ST X W Γ e (tVal s) := by
  obtain ⟨ta, pa, ka⟩ := h
  exact ⟨_, pt_val pa he, runV ka⟩
def tAnd' (a b : TSm) : TSm := fun Γ ρ M => (a Γ ρ M).bind fun k M1 => if k = true then b Γ ρ M1 else .ok false M1
def tOr' (a b : TSm) : TSm := fun Γ ρ M => (a Γ ρ M).bind fun k M1 => if k = true then .ok true M1 else b Γ ρ M1
def tNot' (a : TSm) : TSm := fun Γ ρ M => (a Γ ρ M).bind fun k M1 => .ok (!k) M1
variable {ua ub : TSm} {rest : List Expr}
theorem SW.st {e : Expr} (h : SW X W Γ e ua) : ST X W Γ e ua := by
  obtain ⟨t, p, k⟩ := h
  exact ⟨t, p.pt, k⟩
theorem sw_and1 (ha : ST X W Γ a ua) : SW X W Γ (.BoolOp .And [a] pos) ua := by
  obtain ⟨t, p, k⟩ := ha
  exact ⟨t, pw_and1 p, k⟩
theorem sw_or1 (ha : ST X W Γ a ua) : SW X W Γ (.BoolOp .Or [a] pos) ua := by
  obtain ⟨t, p, k⟩ := ha
  exact ⟨t, pw_or1 p, k⟩
theorem sw_and (ha : ST X W Γ a ua) (hb : SW X W Γ (.BoolOp .And (b :: rest) pos) ub) : SW X W Γ (.BoolOp .And (a :: b :: rest) pos) (tAnd' ua ub) := by
  obtain ⟨t, p, k⟩ := ha
  obtain ⟨t', p', k'⟩ := hb
  refine ⟨_, pw_and p p', fun ρ M F ι σ H Q rl er h => ?_⟩
  refine k ρ M F ι σ H _ rl er (OkG.bind h |>.imp fun v H1 hv => ?_)
  obtain ⟨d, M1, F1, ι1, x1, rl1, rfl, h1⟩ := hv
  cases d with
  | true => exact k' ρ M1 F1 ι1 σ H1 Q rl1 (er.mono x1) h1
  | false => exact OkT.ok' h1 rl1
theorem sw_or (ha : ST X W Γ a ua) (hb : SW X W Γ (.BoolOp .Or (b :: rest) pos) ub) : SW X W Γ (.BoolOp .Or (a :: b :: rest) pos) (tOr' ua ub) := by
  obtain ⟨t, p, k⟩ := ha
  obtain ⟨t', p', k'⟩ := hb
  refine ⟨_, pw_or p p', fun ρ M F ι σ H Q rl er h => ?_⟩
  refine k ρ M F ι σ H _ rl er (OkG.bind h |>.imp fun v H1 hv => ?_)
  obtain ⟨d, M1, F1, ι1, x1, rl1, rfl, h1⟩ := hv
  cases d with
  | true => exact OkT.ok' h1 rl1
  | false => exact k' ρ M1 F1 ι1 σ H1 Q rl1 (er.mono x1) h1
theorem st_not (ha : ST X W Γ a ua) : ST X W Γ (.UnaryOp .Not a pos) (tNot' ua) := by
  obtain ⟨t, p, k⟩ := ha
  refine ⟨_, pt_not p, fun ρ M F ι σ H Q rl er h => ?_⟩
  refine k ρ M F ι σ H _ rl er (OkG.bind h |>.imp fun v H1 hv => ?_)
  obtain ⟨d, M1, F1, ι1, x1, rl1, rfl, h1⟩ := hv
  exact OkT.ok' h1 rl1
def eIf (t : TSm) (a b : ES) : ES := fun Γ ρ M => (t Γ ρ M).bind fun k M1 => if k = true then a Γ ρ M1 else b Γ ρ M1
theorem se_if (hc : ST X W Γ c ua) (ha : SE X W Γ a sa) (hb : SE X W Γ b sb) : SE X W Γ (.IfExp c a b pos) (eIf ua sa sb) := by
  obtain ⟨t, p, k⟩ := hc
  obtain ⟨ta, pa, ka⟩ := ha
  obtain ⟨tb, pb, kb⟩ := hb
  refine ⟨_, pe_ifExp p pa pb, fun ρ M F ι σ H Q rl er h => ?_⟩
  refine k ρ M F ι σ H _ rl er (OkG.bind h |>.imp fun v H1 hv => ?_)
  obtain ⟨d, M1, F1, ι1, x1, rl1, rfl, h1⟩ := hv
  cases d with
  | true => exact ka ρ M1 F1 ι1 σ H1 Q rl1 (er.mono x1) h1
  | false => exact kb ρ M1 F1 ι1 σ H1 Q rl1 (er.mono x1) h1
/-! and, or, not as values -/
def eAnd (a b : ES) : ES := fun Γ ρ M => (a Γ ρ M).bind fun x M1 => match x with
  | .bl true => b Γ ρ M1
  | .bl false => .ok (.bl false) M1
  | _ => .stuck
def eOr (a b : ES) : ES := fun Γ ρ M => (a Γ ρ M).bind fun x M1 => match x with
  | .bl true => .ok (.bl true) M1
  | .bl false => b Γ ρ M1
  | _ => .stuck
def eNot (a : ES) : ES := fun Γ ρ M => (a Γ ρ M).bind fun x M1 => match x with
  | .bl k => .ok (.bl (!k)) M1
  | _ => .stuck
theorem se_one {op} (h : SE X W Γ a sa) : SE X W Γ (.BoolOp op [a] pos) sa := by
  obtain ⟨ta, pa, ka⟩ := h
  exact ⟨_, pe_one pa, ka⟩
theorem se_and (ha : SE X W Γ a sa) (hb : SE X W Γ (.BoolOp .And (b :: rest) pos) sb) : SE X W Γ (.BoolOp .And (a :: b :: rest) pos) (eAnd sa sb) := by
  obtain ⟨ta, pa, ka⟩ := ha
  obtain ⟨tb, pb, kb⟩ := hb
  refine ⟨_, pe_and pa pb, fun ρ M F ι σ H Q rl er h => ?_⟩
  refine ka ρ M F ι σ H _ rl er (OkG.bind h |>.imp fun v H1 hv => ?_)
  obtain ⟨d, M1, F1, ι1, x1, rl1, rv1, h1⟩ := hv
  cases rv1 with
  | bl k =>
    cases k with
    | true => exact ⟨true, rfl, kb ρ M1 F1 ι1 σ H1 Q rl1 (er.mono x1) h1⟩
    | false => exact ⟨false, rfl, h1.ok rl1 (.bl false)⟩
  | _ => exact h1.elim
theorem se_or (ha : SE X W Γ a sa) (hb : SE X W Γ (.BoolOp .Or (b :: rest) pos) sb) : SE X W Γ (.BoolOp .Or (a :: b :: rest) pos) (eOr sa sb) := by
  obtain ⟨ta, pa, ka⟩ := ha
  obtain ⟨tb, pb, kb⟩ := hb
  refine ⟨_, pe_or pa pb, fun ρ M F ι σ H Q rl er h => ?_⟩
  refine ka ρ M F ι σ H _ rl er (OkG.bind h |>.imp fun v H1 hv => ?_)
  obtain ⟨d, M1, F1, ι1, x1, rl1, rv1, h1⟩ := hv
  cases rv1 with
  | bl k =>
    cases k with
    | false => exact ⟨false, rfl, kb ρ M1 F1 ι1 σ H1 Q rl1 (er.mono x1) h1⟩
    | true => exact ⟨true, rfl, h1.ok rl1 (.bl true)⟩
  | _ => exact h1.elim
theorem se_not (ha : SE X W Γ a sa) : SE X W Γ (.UnaryOp .Not a pos) (eNot sa) := by
  obtain ⟨ta, pa, ka⟩ := ha
  refine ⟨_, pe_not pa, fun ρ M F ι σ H Q rl er h => ?_⟩
  refine ka ρ M F ι σ H _ rl er (OkG.bind h |>.imp fun v H1 hv => ?_)
  obtain ⟨d, M1, F1, ι1, x1, rl1, rv1, h1⟩ := hv
  cases rv1 with
  | bl k => exact ⟨k, rfl, h1.ok rl1 (.bl _)⟩
  | _ => exact h1.elim
end
end MP
set_option maxRecDepth 100000
set_option maxHeartbeats 4000000
namespace MP
open PySem L2

section
variable {K : PySem.W.Frag} {mg : Str → Option Value} {F : Hp} {ι : List Addr} {H : Hp} {M : Mem}
/-! ### lists of data and of values -/
theorem RVs.get : ∀ {ds : List D} {vs : List V} {i : Nat} {d : D}, RVs K mg F ι ds vs → ds[i]? = some d → ∃ v, vs[i]? = some v ∧ RV K mg F ι d v
  | _, _, 0, _, .cons r _, e => by simp at e; subst e; exact ⟨_, rfl, r⟩
  | _, _, i + 1, d, .cons _ t, e => by
    obtain ⟨v, h1, h2⟩ := RVs.get (i := i) (d := d) t (by simpa using e)
    exact ⟨v, by simpa using h1, h2⟩
theorem RVs.append : ∀ {xs ys : List D} {us ws : List V}, RVs K mg F ι xs us → RVs K mg F ι ys ws → RVs K mg F ι (xs ++ ys) (us ++ ws)
  | _, _, _, _, .nil, s => s
  | _, _, _, _, .cons r t, s => .cons r (RVs.append t s)
theorem RVs.take : ∀ {xs : List D} {us : List V} (n : Nat), RVs K mg F ι xs us → RVs K mg F ι (xs.take n) (us.take n)
  | _, _, 0, _ => .nil
  | _, _, _ + 1, .nil => .nil
  | _, _, n + 1, .cons r t => .cons r (RVs.take n t)
theorem RVs.drop : ∀ {xs : List D} {us : List V} (n : Nat), RVs K mg F ι xs us → RVs K mg F ι (xs.drop n) (us.drop n)
  | _, _, 0, r => r
  | _, _, _ + 1, .nil => .nil
  | _, _, n + 1, .cons _ t => RVs.drop n t
theorem RVs.set {x : D} {u : V} (r : RV K mg F ι x u) : ∀ {xs : List D} {us : List V} (i : Nat), RVs K mg F ι xs us → RVs K mg F ι (xs.set i x) (us.set i u)
  | _, _, _, .nil => .nil
  | _, _, 0, .cons _ t => .cons r t
  | _, _, i + 1, .cons q t => .cons q (RVs.set r i t)
theorem RVs.erase : ∀ {xs : List D} {us : List V} (i : Nat), RVs K mg F ι xs us → RVs K mg F ι (xs.eraseIdx i) (us.eraseIdx i)
  | _, _, _, .nil => .nil
  | _, _, 0, .cons _ t => t
  | _, _, i + 1, .cons q t => .cons q (RVs.erase i t)
theorem RVs.atI {ds : List D} {vs : List V} {i : Int} {d : D} (r : RVs K mg F ι ds vs) (h : atI ds i = some d) : ∃ v, L2.atI vs i = some v ∧ RV K mg F ι d v := by
  unfold L2.atI at h ⊢
  rw [← r.len]
  cases e : ixN ds.length i with
  | none => rw [e] at h; cases h
  | some j =>
    rw [e] at h
    exact r.get h
theorem RVs.ints : ∀ {ns : List Int} {vs : List V}, RVs K mg F ι (ns.map D.int) vs → vs = ns.map V.int
  | [], _, .nil => rfl
  | _ :: _, _, .cons r t => by cases r; rw [List.map_cons, RVs.ints t]
theorem RVs.of_ints : ∀ (ns : List Int), RVs K mg F ι (ns.map D.int) (ns.map V.int)
  | [] => .nil
  | n :: ns => .cons (.int n) (RVs.of_ints ns)
theorem RVs.strs : ∀ {ns : List Str} {vs : List V}, RVs K mg F ι (ns.map D.str) vs → vs = ns.map V.str
  | [], _, .nil => rfl
  | _ :: _, _, .cons r t => by cases r; rw [List.map_cons, RVs.strs t]
theorem RVs.of_strs : ∀ (ns : List Str), RVs K mg F ι (ns.map D.str) (ns.map V.str)
  | [] => .nil
  | n :: ns => .cons (.str n) (RVs.of_strs ns)
theorem RVs.bls : ∀ {ns : List Bool} {vs : List V}, RVs K mg F ι (ns.map D.bl) vs → vs = ns.map V.bl
  | [], _, .nil => rfl
  | _ :: _, _, .cons r t => by cases r; rw [List.map_cons, RVs.bls t]
def asInts : List D → Option (List Int)
  | [] => some []
  | .int i :: r => (asInts r).map (i :: ·)
  | _ => none
def asStrs : List D → Option (List Str)
  | [] => some []
  | .str i :: r => (asStrs r).map (i :: ·)
  | _ => none
def asBls : List D → Option (List Bool)
  | [] => some []
  | .bl i :: r => (asBls r).map (i :: ·)
  | _ => none
theorem asInts_eq : ∀ {xs : List D} {ns : List Int}, asInts xs = some ns → xs = ns.map D.int
  | [], _, h => by cases h; rfl
  | x :: r, ns, h => by
    cases x <;> simp only [asInts, Option.map_eq_some_iff, reduceCtorEq] at h
    obtain ⟨a, h1, rfl⟩ := h
    rw [List.map_cons, ← asInts_eq h1]
theorem asStrs_eq : ∀ {xs : List D} {ns : List Str}, asStrs xs = some ns → xs = ns.map D.str
  | [], _, h => by cases h; rfl
  | x :: r, ns, h => by
    cases x <;> simp only [asStrs, Option.map_eq_some_iff, reduceCtorEq] at h
    obtain ⟨a, h1, rfl⟩ := h
    rw [List.map_cons, ← asStrs_eq h1]
theorem asBls_eq : ∀ {xs : List D} {ns : List Bool}, asBls xs = some ns → xs = ns.map D.bl
  | [], _, h => by cases h; rfl
  | x :: r, ns, h => by
    cases x <;> simp only [asBls, Option.map_eq_some_iff, reduceCtorEq] at h
    obtain ⟨a, h1, rfl⟩ := h
    rw [List.map_cons, ← asBls_eq h1]
theorem asInts_map : ∀ ns : List Int, asInts (ns.map D.int) = some ns
  | [] => rfl
  | n :: ns => by simp [asInts, asInts_map ns]
theorem asStrs_map : ∀ ns : List Str, asStrs (ns.map D.str) = some ns
  | [] => rfl
  | n :: ns => by simp [asStrs, asStrs_map ns]
theorem asBls_map : ∀ ns : List Bool, asBls (ns.map D.bl) = some ns
  | [] => rfl
  | n :: ns => by simp [asBls, asBls_map ns]

/-- what is read as a list; as a tuple -/
def lstOf (M : Mem) : D → Option (List D)
  | .lst xs => some xs
  | .scr xs => some xs
  | .ref k => match M[k]? with
    | some (.lst xs) => some xs
    | _ => none
  | _ => none
theorem lstOf_at {d : D} {v : V} {xs : List D} (rl : Rel K mg F ι M H) (r : RV K mg F ι d v) (h : lstOf M d = some xs) : ∃ p vs, v = .ref p ∧ SqL K H p vs ∧ RVs K mg F ι xs vs := by
  cases r with
  | lst hf hs => cases h; exact ⟨_, _, rfl, SqL.of (rl.sub _ _ hf), hs⟩
  | scr hf hs =>
    cases h
    refine ⟨_, _, rfl, ?_, hs⟩
    rcases hf with (hf | ⟨o, hf⟩) | hf
    · exact .inl (.inl (rl.sub _ _ hf))
    · exact .inl (.inr ⟨o, rl.sub _ _ hf⟩)
    · exact .inr hf
  | ref hk =>
    unfold lstOf at h
    dsimp only at h
    split at h
    · rename_i ys e
      cases h
      obtain ⟨a, o, ha, hf, ho, rm⟩ := rl.at e (by intro z; cases z)
      rw [hk] at ha; cases ha
      cases o <;> simp only [RM] at rm
      exact ⟨_, _, rfl, SqL.of ho, rm⟩
    · cases h
  | _ => cases h
/-- .. that stands by itself -/
def lstH (M : Mem) : D → Option (List D)
  | .lst xs => some xs
  | .ref k => match M[k]? with
    | some (.lst xs) => some xs
    | _ => none
  | _ => none
theorem lstH_at {d : D} {v : V} {xs : List D} (rl : Rel K mg F ι M H) (r : RV K mg F ι d v) (h : lstH M d = some xs) : ∃ p vs, v = .ref p ∧ H p = some (.lst vs) ∧ RVs K mg F ι xs vs := by
  cases r with
  | lst hf hs => cases h; exact ⟨_, _, rfl, rl.sub _ _ hf, hs⟩
  | ref hk =>
    unfold lstH at h
    dsimp only at h
    split at h
    · rename_i ys e
      cases h
      obtain ⟨a, o, ha, hf, ho, rm⟩ := rl.at e (by intro z; cases z)
      rw [hk] at ha; cases ha
      cases o <;> simp only [RM] at rm
      exact ⟨_, _, rfl, ho, rm⟩
    · cases h
  | _ => cases h
theorem sqt_up (rl : Rel K mg F ι M H) {p : Addr} {vs : List V} (h : SqT K F p vs) : SqT K H p vs := by
  rcases h with (hf | ⟨o, hf⟩) | hf
  · exact .inl (.inl (rl.sub _ _ hf))
  · exact .inl (.inr ⟨o, rl.sub _ _ hf⟩)
  · exact .inr hf
end

section
variable {K : PySem.W.Frag} {mg : Str → Option Value}
/-! ### ints -/
def fI (g : Int → Int → Option D) : Mem → D → D → Option D := fun _ x y => match x, y with
  | .int i, .int j => g i j
  | _, _ => none
theorem fI_some {g : Int → Int → Option D} {M : Mem} {x y z : D} (h : fI g M x y = some z) : ∃ i j, x = .int i ∧ y = .int j ∧ g i j = some z := by
  cases x <;> cases y <;> first | exact ⟨_, _, rfl, rfl, h⟩ | cases h
theorem o2_I0 {g : Int → Int → V} {g' : Int → Int → D} (hg : ∀ i j F ι, RV K mg F ι (g' i j) (g i j)) : O2 K mg (rI0 g) (fI fun i j => some (g' i j)) := by
  intro F ι M H Q x y z u v rl rx ry e k
  replace e := fI_some e
  obtain ⟨i, j, rfl, rfl, e⟩ := e
  cases e; cases rx; cases ry
  exact ⟨i, j, rfl, rfl, q_fin k rl (hg i j F ι)⟩
theorem o2_I {C : Int → Int → Prop} [∀ i j, Decidable (C i j)] {g : Int → Int → V} {g' : Int → Int → D} (hg : ∀ i j F ι, RV K mg F ι (g' i j) (g i j)) : O2 K mg (rI C g) (fI fun i j => if C i j then some (g' i j) else none) := by
  intro F ι M H Q x y z u v rl rx ry e k
  replace e := fI_some e
  obtain ⟨i, j, rfl, rfl, e⟩ := e
  split at e
  · rename_i hc
    cases e; cases rx; cases ry
    exact ⟨i, j, rfl, rfl, hc, q_fin k rl (hg i j F ι)⟩
  · cases e
instance (i j : Int) : Decidable (CMul i j) := by unfold CMul; infer_instance
instance (i j : Int) : Decidable (CDivW i j) := by unfold CDivW; infer_instance
instance (i j : Int) : Decidable (CPow i j) := by unfold CPow; infer_instance
def dAddI := fI fun i j => some (.int (i + j))
def dSub := fI fun i j => some (.int (i - j))
def dMulI := fI fun i j => if CMul i j then some (.int (i * j)) else none
def dDiv := fI fun i j => if CDivW i j then some (.int (i / j)) else none
def dMod := fI fun i j => if 0 < j then some (.int (i % j)) else none
def dPow := fI fun i j => if CPow i j then some (.int (i ^ j.toNat)) else none
def dLt := fI fun i j => some (.bl (decide (i < j)))
def dLe := fI fun i j => some (.bl (decide (i ≤ j)))
def dGt := fI fun i j => some (.bl (decide (j < i)))
def dGe := fI fun i j => some (.bl (decide (j ≤ i)))
/-! ### texts -/
def dAddS : Mem → D → D → Option D := fun _ x y => match x, y with
  | .str i, .str j => if i.length + j.length ≤ sizeLine then some (.str (i ++ j)) else none
  | _, _ => none
def rAddS : R2 := fun x y H Q => ∃ i j, x = .str i ∧ y = .str j ∧ i.length + j.length ≤ sizeLine ∧ Q (.str (i ++ j)) H
theorem o2_addS : O2 K mg rAddS dAddS := by
  intro F ι M H Q x y z u v rl rx ry e k
  cases x <;> cases y <;> simp only [dAddS, reduceCtorEq] at e
  split at e
  · rename_i h
    cases e; cases rx; cases ry
    exact ⟨_, _, rfl, rfl, h, q_fin k rl (.str _)⟩
  · cases e
def dAddL : Mem → D → D → Option D := fun M x y => match lstH M x, lstH M y with
  | some xs, some ys => if xs.length + ys.length ≤ sizeLine then some (.lst (xs ++ ys)) else none
  | _, _ => none
theorem o2_addL : O2 K mg rCat dAddL := by
  intro F ι M H Q x y z u v rl rx ry e k
  unfold dAddL at e
  split at e
  · rename_i xs ys e1 e2
    split at e
    · rename_i h
      cases e
      obtain ⟨p, vs, rfl, hp, hs⟩ := lstH_at rl rx e1
      obtain ⟨q, ws, rfl, hq, ht⟩ := lstH_at rl ry e2
      exact ⟨_, _, _, _, rfl, rfl, hp, hq, by rw [← hs.len, ← ht.len]; exact h, fun r hr => q_newL k rl (hs.append ht) hr⟩
    · cases e
  · cases e
def rAdd' : R2 := fun x y H Q => rI0 (fun i j => .int (i + j)) x y H Q ∨ rAddS x y H Q ∨ rCat x y H Q
def dAdd : Mem → D → D → Option D := fun M x y => (dAddI M x y).or ((dAddS M x y).or (dAddL M x y))
theorem op_add' {X : Cx} : OpR X (binaryOp .Add) rAdd' := op_add.or (OpR.or (r := rAddS) op_add_str op_cat)
theorem o2_add : O2 K mg rAdd' dAdd := (o2_I0 fun i j F ι => .int _).or (o2_addS.or o2_addL)

/-! ### items -/
def dIx : Mem → D → D → Option D := fun M x y => match y with
  | .int i => match x with
    | .tup xs => atI xs i
    | .str z => if z.length ≤ sizeLine then (atI z.cps.toList i).map fun c => .str ⟨#[c]⟩ else none
    | x => (lstOf M x).bind fun xs => atI xs i
  | _ => none
theorem o2_ix : O2 K mg (rIx K) dIx := by
  intro F ι M H Q x y z u v rl rx ry e k
  unfold dIx at e
  split at e
  · rename_i i
    cases ry
    split at e
    · cases rx with
      | tup hf hs =>
        obtain ⟨w, h1, h2⟩ := hs.atI e
        exact .inr (.inl ⟨_, _, _, _, rfl, rfl, sqt_up rl hf, h1, q_fin k rl h2⟩)
    · cases rx
      split at e
      · rename_i hz
        rw [Option.map_eq_some_iff] at e
        obtain ⟨c, h1, rfl⟩ := e
        exact .inr (.inr ⟨_, _, _, rfl, rfl, hz, h1, q_fin k rl (.str _)⟩)
      · cases e
    · rw [Option.bind_eq_some_iff] at e
      obtain ⟨xs, h1, h2⟩ := e
      obtain ⟨p, vs, rfl, hp, hs⟩ := lstOf_at rl rx h1
      obtain ⟨w, h3, h4⟩ := hs.atI h2
      exact .inl ⟨_, _, _, _, rfl, rfl, hp, h3, q_fin k rl h4⟩
  · cases e

/-! ### slices -/
def cutD {α : Type} (xs : List α) (lo hi : Option Int) : List α := (xs.drop (HT.sIx xs.length 0 lo)).take (HT.sIx xs.length xs.length hi - HT.sIx xs.length 0 lo)
theorem RVs.cut {F : Hp} {ι : List Addr} {ds : List D} {vs : List V} (r : RVs K mg F ι ds vs) (lo hi : Option Int) : RVs K mg F ι (cutD ds lo hi) (cutV vs lo hi) := by
  unfold cutD cutV
  rw [← r.len]
  exact (r.drop _).take _
def dSl (M : Mem) (x : D) (lo hi : Option Int) : Option D := match x with
  | .str z => if z.length ≤ sizeLine then some (.str (cutS z lo hi)) else none
  | x => (lstOf M x).map fun xs => .lst (cutD xs lo hi)
abbrev OS := Calls → MP.Env → Mem → R (Option Int)
def SO (X : Cx) (W : WX) (Γ : Calls) (e : Option Expr) (s : OS) : Prop :=
  ∃ te : TO, PO X e te ∧ ∀ ρ M F ι σ H Q, Rel X.K X.mg F ι M H → ER X.K X.mg F ι ρ σ → OkG (fun _ _ (a b : Option Int) => a = b) X.K X.mg F ι H (s Γ ρ M) Q (WE W σ) → te σ H Q
variable {X : Cx} {W : WX} {Γ : Calls}
def oNone : OS := fun _ _ M => .ok none M
def oSome (a : ES) : OS := fun Γ ρ M => (a Γ ρ M).bind fun x M1 => match x with
  | .int i => .ok (some i) M1
  | _ => .stuck
theorem so_none : SO X W Γ none oNone := ⟨_, po_none, fun ρ M F ι σ H Q rl er h => h F ι H none Ext.refl rl rfl⟩
theorem so_some {e : Expr} {s : ES} (h : SE X W Γ e s) : SO X W Γ (some e) (oSome s) := by
  obtain ⟨t, p, k⟩ := h
  refine ⟨_, po_some p, fun ρ M F ι σ H Q rl er h => ?_⟩
  refine k ρ M F ι σ H _ rl er (OkG.bind h |>.imp fun v H1 hv => ?_)
  obtain ⟨d, M1, F1, ι1, x1, rl1, rv1, h1⟩ := hv
  cases rv1 with
  | int i => exact ⟨i, rfl, h1 F1 ι1 H1 _ Ext.refl rl1 rfl⟩
  | _ => exact h1.elim
def eSl (a : ES) (lo hi : OS) : ES := fun Γ ρ M => (a Γ ρ M).bind fun x M1 => (lo Γ ρ M1).bind fun l M2 => (hi Γ ρ M2).bind fun h M3 => R.opt (dSl M3 x l h) M3
theorem se_slice {e : Expr} {lo hi : Option Expr} {s : ES} {sl sh : OS} {p2 pos : Pos} (he : SE X W Γ e s) (hl : SO X W Γ lo sl) (hh : SO X W Γ hi sh) : SE X W Γ (.Subscript e (.Slice lo hi none p2) pos) (eSl s sl sh) := by
  obtain ⟨t, p, k⟩ := he
  obtain ⟨tl, pl, kl⟩ := hl
  obtain ⟨th, ph, kh⟩ := hh
  refine ⟨_, pe_slice (sl_str.or sl_list) p pl ph, fun ρ M F ι σ H Q rl er h => ?_⟩
  refine k ρ M F ι σ H _ rl er (OkG.bind h |>.imp fun v H1 hv => ?_)
  obtain ⟨d, M1, F1, ι1, x1, rl1, rv1, h1⟩ := hv
  refine kl ρ M1 F1 ι1 σ H1 _ rl1 (er.mono x1) (OkG.bind h1 |>.imp fun lo' H2 hv => ?_)
  obtain ⟨_, M2, F2, ι2, x2, rl2, rfl, h2⟩ := hv
  refine kh ρ M2 F2 ι2 σ H2 _ rl2 ((er.mono x1).mono x2) (OkG.bind h2 |>.imp fun hi' H3 hv => ?_)
  obtain ⟨_, M3, F3, ι3, x3, rl3, rfl, h3⟩ := hv
  obtain ⟨z, hz, kk⟩ := okopt h3
  have rv := (rv1.mono x2).mono x3
  unfold dSl at hz
  split at hz
  · cases rv
    split at hz
    · rename_i hz'
      cases hz
      exact .inl ⟨_, rfl, hz', q_fin kk rl3 (.str _)⟩
    · cases hz
  · rw [Option.map_eq_some_iff] at hz
    obtain ⟨xs, h4, rfl⟩ := hz
    obtain ⟨p, vs, rfl, hp, hs⟩ := lstOf_at rl3 rv h4
    exact .inr ⟨_, _, rfl, hp, fun q hq => q_newL kk rl3 (hs.cut _ _) hq⟩

/-! ### built-ins -/
def f1 (g : Mem → D → Option D) : Mem → List D → Option D := fun M xs => match xs with
  | [x] => g M x
  | _ => none
theorem f1_some {g : Mem → D → Option D} {M : Mem} {xs : List D} {z : D} (h : f1 g M xs = some z) : ∃ x, xs = [x] ∧ g M x = some z := by
  match xs, h with
  | [x], h => exact ⟨x, rfl, h⟩
theorem RVs.one {F : Hp} {ι : List Addr} {x : D} {vs : List V} (r : RVs K mg F ι [x] vs) : ∃ v, vs = [v] ∧ RV K mg F ι x v := by
  cases r with
  | cons a b => cases b; exact ⟨_, rfl, a⟩
theorem RVs.two {F : Hp} {ι : List Addr} {x y : D} {vs : List V} (r : RVs K mg F ι [x, y] vs) : ∃ v w, vs = [v, w] ∧ RV K mg F ι x v ∧ RV K mg F ι y w := by
  cases r with
  | cons a b =>
    obtain ⟨w, rfl, q⟩ := b.one
    exact ⟨_, _, rfl, a, q⟩
def rLen (K : PySem.W.Frag) : List V → Hp → VK → Prop := fun xs H Q => ∃ x n, xs = [x] ∧ LenV K x H n ∧ Q (.int n) H
def dLen := f1 fun M x => match x with
  | .str z => if z.length ≤ sizeLine then some (.int z.length) else none
  | .tup xs => some (.int xs.length)
  | x => (lstOf M x).map fun xs => .int xs.length
theorem o1_len : O1 K mg (rLen K) dLen := by
  intro F ι M H Q x z u rl rx e k
  replace e := f1_some e
  obtain ⟨d, rfl, e⟩ := e
  obtain ⟨v, rfl, rv⟩ := rx.one
  split at e
  · cases rv
    split at e
    · rename_i h
      cases e
      exact ⟨_, _, rfl, ⟨h, rfl⟩, q_fin k rl (.int _)⟩
    · cases e
  · cases rv with
    | tup hf hs => cases e; exact ⟨_, _, rfl, .inr ⟨_, sqt_up rl hf, hs.len⟩, q_fin k rl (.int _)⟩
  · rw [Option.map_eq_some_iff] at e
    obtain ⟨xs, h1, rfl⟩ := e
    obtain ⟨p, vs, rfl, hp, hs⟩ := lstOf_at rl rv h1
    exact ⟨_, _, rfl, .inl ⟨_, hp, hs.len⟩, q_fin k rl (.int _)⟩
def rInt1 : List V → Hp → VK → Prop := fun xs H Q => (∃ i, xs = [.int i] ∧ Q (.int i) H) ∨ ∃ k, xs = [.bl k] ∧ Q (.int (if k then 1 else 0)) H
def dInt := f1 fun _ x => match x with
  | .int i => some (.int i)
  | .bl k => some (.int (if k then 1 else 0))
  | _ => none
theorem o1_int : O1 K mg rInt1 dInt := by
  intro F ι M H Q x z u rl rx e k
  replace e := f1_some e
  obtain ⟨d, rfl, e⟩ := e
  obtain ⟨v, rfl, rv⟩ := rx.one
  cases rv <;> cases e
  · exact .inr ⟨_, rfl, q_fin k rl (.int _)⟩
  · exact .inl ⟨_, rfl, q_fin k rl (.int _)⟩
def rAbs : List V → Hp → VK → Prop := fun xs H Q => ∃ i, xs = [.int i] ∧ Q (.int (if i < 0 then -i else i)) H
def dAbs := f1 fun _ x => match x with
  | .int i => some (.int (if i < 0 then -i else i))
  | _ => none
theorem o1_abs : O1 K mg rAbs dAbs := by
  intro F ι M H Q x z u rl rx e k
  replace e := f1_some e
  obtain ⟨d, rfl, e⟩ := e
  obtain ⟨v, rfl, rv⟩ := rx.one
  cases rv <;> cases e
  exact ⟨_, rfl, q_fin k rl (.int _)⟩
def dSum := f1 fun M x => (lstOf M x).bind fun xs => (asInts xs).map fun ns => .int ns.sum
theorem o1_sum : O1 K mg (rSum K) dSum := by
  intro F ι M H Q x z u rl rx e k
  replace e := f1_some e
  obtain ⟨d, rfl, e⟩ := e
  obtain ⟨v, rfl, rv⟩ := rx.one
  rw [Option.bind_eq_some_iff] at e
  obtain ⟨xs, h1, e⟩ := e
  rw [Option.map_eq_some_iff] at e
  obtain ⟨ns, h2, rfl⟩ := e
  obtain ⟨p, vs, rfl, hp, hs⟩ := lstOf_at rl rv h1
  rw [asInts_eq h2] at hs
  rw [hs.ints] at hp
  exact ⟨_, _, rfl, hp, q_fin k rl (.int _)⟩
def greatest : List Int → Int
  | [] => 0
  | [x] => x
  | x :: r => max x (greatest r)
theorem greatest_mem : ∀ (ns : List Int), ns ≠ [] → greatest ns ∈ ns
  | [x], _ => by simp [greatest]
  | x :: y :: r, _ => by
    have h := greatest_mem (y :: r) (by simp)
    unfold greatest
    by_cases q : x ≤ greatest (y :: r)
    · rw [Int.max_eq_right q]; exact List.mem_cons_of_mem _ h
    · rw [Int.max_eq_left (by omega)]; exact List.mem_cons_self
theorem greatest_ge : ∀ (ns : List Int) (y : Int), y ∈ ns → y ≤ greatest ns
  | [x], y, h => by rw [List.mem_singleton.mp h]; exact Int.le_refl _
  | x :: z :: r, y, h => by
    unfold greatest
    rcases List.mem_cons.mp h with rfl | h
    · exact Int.le_max_left _ _
    · exact Int.le_trans (greatest_ge (z :: r) y h) (Int.le_max_right _ _)
def dMaxL := f1 fun M x => (lstOf M x).bind fun xs => (asInts xs).bind fun ns => if ns = [] then none else some (.int (greatest ns))
theorem o1_maxL : O1 K mg (rMax K) dMaxL := by
  intro F ι M H Q x z u rl rx e k
  replace e := f1_some e
  obtain ⟨d, rfl, e⟩ := e
  obtain ⟨v, rfl, rv⟩ := rx.one
  rw [Option.bind_eq_some_iff] at e
  obtain ⟨xs, h1, e⟩ := e
  rw [Option.bind_eq_some_iff] at e
  obtain ⟨ns, h2, e⟩ := e
  split at e
  · cases e
  · rename_i hne
    cases e
    obtain ⟨p, vs, rfl, hp, hs⟩ := lstOf_at rl rv h1
    rw [asInts_eq h2] at hs
    rw [hs.ints] at hp
    refine ⟨_, _, rfl, hp, List.length_pos_iff.mpr hne, fun m hm hg => ?_⟩
    have : m = greatest ns := Int.le_antisymm (greatest_ge ns m hm) (hg _ (greatest_mem ns hne))
    subst this
    exact q_fin k rl (.int _)
def dAll := f1 fun M x => (lstOf M x).bind fun xs => (asBls xs).map fun ns => .bl (ns.all id)
def dAny := f1 fun M x => (lstOf M x).bind fun xs => (asBls xs).map fun ns => .bl (ns.any id)
theorem o1_all : O1 K mg (rAll K) dAll := by
  intro F ι M H Q x z u rl rx e k
  replace e := f1_some e
  obtain ⟨d, rfl, e⟩ := e
  obtain ⟨v, rfl, rv⟩ := rx.one
  rw [Option.bind_eq_some_iff] at e
  obtain ⟨xs, h1, e⟩ := e
  rw [Option.map_eq_some_iff] at e
  obtain ⟨ns, h2, rfl⟩ := e
  obtain ⟨p, vs, rfl, hp, hs⟩ := lstOf_at rl rv h1
  rw [asBls_eq h2] at hs
  rw [hs.bls] at hp
  exact ⟨_, _, rfl, hp, q_fin k rl (.bl _)⟩
theorem o1_any : O1 K mg (rAny K) dAny := by
  intro F ι M H Q x z u rl rx e k
  replace e := f1_some e
  obtain ⟨d, rfl, e⟩ := e
  obtain ⟨v, rfl, rv⟩ := rx.one
  rw [Option.bind_eq_some_iff] at e
  obtain ⟨xs, h1, e⟩ := e
  rw [Option.map_eq_some_iff] at e
  obtain ⟨ns, h2, rfl⟩ := e
  obtain ⟨p, vs, rfl, hp, hs⟩ := lstOf_at rl rv h1
  rw [asBls_eq h2] at hs
  rw [hs.bls] at hp
  exact ⟨_, _, rfl, hp, q_fin k rl (.bl _)⟩
def rTuple (K : PySem.W.Frag) : List V → Hp → VK → Prop := fun xs H Q => ∃ p ys, xs = [.ref p] ∧ ((SqL K H p ys ∧ ∀ l, H l = none → Q (.ref l) (upd H l (.tup ys))) ∨ (SqT K H p ys ∧ Q (.ref p) H))
def dTuple := f1 fun M x => match x with
  | .tup xs => some (.tup xs)
  | x => (lstOf M x).map .tup
theorem o1_tuple : O1 K mg (rTuple K) dTuple := by
  intro F ι M H Q x z u rl rx e k
  replace e := f1_some e
  obtain ⟨d, rfl, e⟩ := e
  obtain ⟨v, rfl, rv⟩ := rx.one
  split at e
  · cases e
    cases rv with
    | tup hf hs => exact ⟨_, _, rfl, .inr ⟨sqt_up rl hf, q_fin k rl (.tup hf hs)⟩⟩
  · rw [Option.map_eq_some_iff] at e
    obtain ⟨xs, h1, rfl⟩ := e
    obtain ⟨p, vs, rfl, hp, hs⟩ := lstOf_at rl rv h1
    exact ⟨_, _, rfl, .inl ⟨hp, fun l hl => q_newT k rl hs hl⟩⟩
def rListOf (K : PySem.W.Frag) : List V → Hp → VK → Prop := fun xs H Q => ∃ p ys, xs = [.ref p] ∧ (SqL K H p ys ∨ SqT K H p ys) ∧ ∀ l, H l = none → Q (.ref l) (upd H l (.lst ys))
def dList := f1 fun M x => match x with
  | .tup xs => some (.lst xs)
  | x => (lstOf M x).map .lst
theorem o1_list : O1 K mg (rListOf K) dList := by
  intro F ι M H Q x z u rl rx e k
  replace e := f1_some e
  obtain ⟨d, rfl, e⟩ := e
  obtain ⟨v, rfl, rv⟩ := rx.one
  split at e
  · cases e
    cases rv with
    | tup hf hs => exact ⟨_, _, rfl, .inr (sqt_up rl hf), fun l hl => q_newL k rl hs hl⟩
  · rw [Option.map_eq_some_iff] at e
    obtain ⟨xs, h1, rfl⟩ := e
    obtain ⟨p, vs, rfl, hp, hs⟩ := lstOf_at rl rv h1
    exact ⟨_, _, rfl, .inl hp, fun l hl => q_newL k rl hs hl⟩
end
end MP
set_option maxRecDepth 100000
set_option maxHeartbeats 4000000
namespace MP
open PySem L2

def R.toS {α : Type} (ρ : Env) (r : R α) (f : α → Mem → SR) : SR := match r with
  | .ok a M => f a M
  | .exc c fs M => .exc c fs ρ M
  | .stuck => .stuck
def SSt (X : Cx) (W : WX) (Γ : Calls) (st : Stmt) (s : SS) : Prop :=
  ∃ ts : TS, PS X st ts ∧ ∀ ρ M F ι σ H D, Rel X.K X.mg F ι M H → ER X.K X.mg F ι ρ σ → OkS X.K X.mg F ι H (s Γ ρ M) D W → ts D σ H
def SSs (X : Cx) (W : WX) (Γ : Calls) (st : List Stmt) (s : SS) : Prop :=
  ∃ ts : TS, PSs X st ts ∧ ∀ ρ M F ι σ H D, Rel X.K X.mg F ι M H → ER X.K X.mg F ι ρ σ → OkS X.K X.mg F ι H (s Γ ρ M) D W → ts D σ H
abbrev GS := Mem → D → Env → Option Env
def Keep (vs : List Nat) (σ σ' : St) : Prop := σ'.length = σ.length ∧ ∀ i : Nat, i ∉ vs → σ'[i]? = σ[i]?
theorem Keep.refl {vs : List Nat} {σ : St} : Keep vs σ σ := ⟨rfl, fun _ _ => rfl⟩
theorem Keep.trans {vs : List Nat} {σ σ' σ'' : St} (a : Keep vs σ σ') (b : Keep vs σ' σ'') : Keep vs σ σ'' := ⟨b.1.trans a.1, fun i hi => (b.2 i hi).trans (a.2 i hi)⟩
theorem Keep.set {vs : List Nat} {σ : St} {i : Nat} (hi : i ∈ vs) (v : Option V) : Keep vs σ (σ.set i v) := ⟨List.length_set .., fun j hj => List.getElem?_set_ne (fun z => hj (by rw [← z]; exact hi))⟩
def SG (X : Cx) (vs : List Nat) (tg : Expr) (g : GS) : Prop :=
  ∃ gt : TG, PG X tg gt ∧ ∀ d v ρ ρ' M F ι σ H Q, Rel X.K X.mg F ι M H → ER X.K X.mg F ι ρ σ → RV X.K X.mg F ι d v → g M d ρ = some ρ' → (∀ σ', ER X.K X.mg F ι ρ' σ' → Keep vs σ σ' → Q σ' H) → gt v σ H Q
abbrev GSs := Mem → List D → Env → Option Env
def SGs (X : Cx) (ws : List Nat) (tg : List Expr) (g : GSs) : Prop :=
  ∃ gt : TGs, PGs X tg gt ∧ ∀ ds vs ρ ρ' M F ι σ H Q, Rel X.K X.mg F ι M H → ER X.K X.mg F ι ρ σ → RVs X.K X.mg F ι ds vs → g M ds ρ = some ρ' → (∀ σ', ER X.K X.mg F ι ρ' σ' → Keep ws σ σ' → Q σ' H) → gt vs σ H Q

section
variable {K : PySem.W.Frag} {mg : Str → Option Value} {F : Hp} {ι : List Addr} {H : Hp} {α β : Type} {rel : Hp → List Addr → α → β → Prop}
theorem OkS.bind {r : R α} {ρ : Env} {σ : St} {f : α → Mem → SR} {Dn : Ends} {W : WX} (er : ER K mg F ι ρ σ) (h : OkS K mg F ι H (r.toS ρ f) Dn W) :
    OkG rel K mg F ι H r (fun v H1 => ∃ d M1 F1 ι1, Ext F ι H F1 ι1 H1 ∧ Rel K mg F1 ι1 M1 H1 ∧ rel F1 ι1 d v ∧ OkS K mg F1 ι1 H1 (f d M1) Dn W) (WE W σ) := by
  cases r with
  | ok d M' => exact fun F2 ι2 H2 v y rl rv => ⟨d, M', F2, ι2, y, rl, rv, OkS.step y h⟩
  | exc c fs M' => exact fun F2 ι2 H2 C d y rl hc hx => h F2 ι2 H2 σ C d y rl (er.mono y) hc hx
  | stuck => exact h
end

section
variable {X : Cx} {W : WX} {Γ : Calls} {e : Expr} {se : ES} {pos : Pos} {st : Stmt} {rest : List Stmt} {sa sb : SS}
/-! ### blocks -/
def sNil : SS := fun _ ρ M => .next ρ M
def sSeq (a b : SS) : SS := fun Γ ρ M => match a Γ ρ M with
  | .next ρ1 M1 => b Γ ρ1 M1
  | r => r
theorem ss_nil : SSs X W Γ [] sNil := ⟨_, pss_nil, fun ρ M F ι σ H D rl er h => h F ι H σ Ext.refl rl er⟩
theorem ss_cons (ha : SSt X W Γ st sa) (hb : SSs X W Γ rest sb) : SSs X W Γ (st :: rest) (sSeq sa sb) := by
  obtain ⟨t, p, k⟩ := ha
  obtain ⟨t', p', k'⟩ := hb
  refine ⟨_, pss_cons p p', fun ρ M F ι σ H D rl er h => ?_⟩
  refine k ρ M F ι σ H { D with nx := t' D } rl er ?_
  unfold sSeq at h
  generalize sa Γ ρ M = r at h ⊢
  cases r with
  | next ρ1 M1 => exact fun F' ι' H' σ' x rl' er' => k' ρ1 M1 F' ι' σ' H' D rl' er' (OkS.step x h)
  | brk ρ1 M1 => exact h
  | cnt ρ1 M1 => exact h
  | ret d M1 => exact h
  | exc c fs ρ1 M1 => exact h
  | stuck => exact h
theorem ss_one (ha : SSt X W Γ st sa) : SSs X W Γ [st] sa := by
  obtain ⟨t, p, k⟩ := ha
  exact ⟨_, pss_one p, k⟩
theorem ss_pass : SSt X W Γ (.Pass pos) sNil := ⟨_, ps_pass, fun ρ M F ι σ H D rl er h => h F ι H σ Ext.refl rl er⟩
def sBreak : SS := fun _ ρ M => .brk ρ M
def sCont : SS := fun _ ρ M => .cnt ρ M
theorem ss_break : SSt X W Γ (.Break pos) sBreak := ⟨_, ps_break, fun ρ M F ι σ H D rl er h => h F ι H σ Ext.refl rl er⟩
theorem ss_continue : SSt X W Γ (.Continue pos) sCont := ⟨_, ps_continue, fun ρ M F ι σ H D rl er h => h F ι H σ Ext.refl rl er⟩
/-- a statement that is never come to -/
def sStuck : SS := fun _ _ _ => .stuck
theorem ss_never : SSt X W Γ st sStuck := ⟨_, ps_never, fun _ _ _ _ _ _ _ _ _ h => h⟩
def sExpr (a : ES) : SS := fun Γ ρ M => (a Γ ρ M).toS ρ fun _ M1 => .next ρ M1
theorem ss_expr (h : SE X W Γ e se) (hs : swapsWith e none pos.line X.env = pure false := by rfl) : SSt X W Γ (.Expr e pos) (sExpr se) := by
  obtain ⟨t, p, k⟩ := h
  refine ⟨_, ps_expr p hs, fun ρ M F ι σ H D rl er h => ?_⟩
  refine k ρ M F ι σ H _ rl er ((OkS.bind er h).imp fun v H1 hv => ?_)
  obtain ⟨d, M1, F1, ι1, x1, rl1, rv1, h1⟩ := hv
  exact h1 F1 ι1 H1 σ Ext.refl rl1 (er.mono x1)
def sRet (a : ES) : SS := fun Γ ρ M => (a Γ ρ M).toS ρ fun d M1 => .ret d M1
theorem ss_ret (h : SE X W Γ e se) : SSt X W Γ (.Return (some e) pos) (sRet se) := by
  obtain ⟨t, p, k⟩ := h
  refine ⟨_, ps_ret p, fun ρ M F ι σ H D rl er h => ?_⟩
  refine k ρ M F ι σ H _ rl er ((OkS.bind er h).imp fun v H1 hv => ?_)
  obtain ⟨d, M1, F1, ι1, x1, rl1, rv1, h1⟩ := hv
  exact h1 F1 ι1 H1 v Ext.refl rl1 rv1
def sRetN : SS := fun _ _ M => .ret .non M
theorem ss_retN : SSt X W Γ (.Return none pos) sRetN := ⟨_, ps_retN, fun ρ M F ι σ H D rl er h => h F ι H .non Ext.refl rl .non⟩
def sIf (t : TSm) (a b : SS) : SS := fun Γ ρ M => (t Γ ρ M).toS ρ fun k M1 => if k = true then a Γ ρ M1 else b Γ ρ M1
theorem ss_if {c : Expr} {a b : List Stmt} {ut : TSm} (hc : ST X W Γ c ut) (ha : SSs X W Γ a sa) (hb : SSs X W Γ b sb) : SSt X W Γ (.If c a b pos) (sIf ut sa sb) := by
  obtain ⟨t, p, k⟩ := hc
  obtain ⟨ta, pa, ka⟩ := ha
  obtain ⟨tb, pb, kb⟩ := hb
  refine ⟨_, ps_if p pa pb, fun ρ M F ι σ H D rl er h => ?_⟩
  refine k ρ M F ι σ H _ rl er ((OkS.bind er h).imp fun v H1 hv => ?_)
  obtain ⟨d, M1, F1, ι1, x1, rl1, rfl, h1⟩ := hv
  cases d with
  | true => exact ka ρ M1 F1 ι1 σ H1 D rl1 (er.mono x1) h1
  | false => exact kb ρ M1 F1 ι1 σ H1 D rl1 (er.mono x1) h1

/-! ### targets, assignment -/
def gN (i : Nat) : GS := fun _ d ρ => some (ρ.set i (some d))
theorem sg_name {ws : List Nat} {i : Nat} {x : Str} (hN : X.N.Nodup) (hw : i ∈ ws := by decide) (hi : X.N[i]? = some x := by rfl) (hx : Loc X.env.scope x := by first | exact Or.inl rfl | exact Or.inr rfl) (hf : X.fn x = true ∨ X.env.scope.names.lookup x = some .local := by first | exact .inl rfl | exact .inr rfl | assumption) : SG X ws (.Name x pos) (gN i) := by
  refine ⟨_, pg_name hN hi hx hf, fun d v ρ ρ' M F ι σ H Q rl er rv e k => ?_⟩
  cases e
  exact k _ (er.set i rv) (.set hw _)
def gsNil : GSs := fun _ ds ρ => if ds = [] then some ρ else none
def gsCons (g : GS) (r : GSs) : GSs := fun M ds ρ => match ds with
  | d :: ds => (g M d ρ).bind fun ρ1 => r M ds ρ1
  | [] => none
def gsNil' : GSs := fun _ ds ρ => match ds with
  | [] => some ρ
  | _ => none
theorem sg_nil {ws : List Nat} : SGs X ws [] gsNil' := by
  refine ⟨_, pgs_nil, fun ds vs ρ ρ' M F ι σ H Q rl er rv e k => ?_⟩
  cases rv with
  | nil => cases e; exact ⟨rfl, k σ er .refl⟩
  | cons _ _ => cases e
theorem sg_cons {ws : List Nat} {tg : Expr} {tgs : List Expr} {g : GS} {gr : GSs} (h : SG X ws tg g) (hr : SGs X ws tgs gr) (hs : (assignEach (tg :: tgs) X.env).map (·.2) = assign tg X.env :: (assignEach tgs X.env).map (·.2) := by rfl) : SGs X ws (tg :: tgs) (gsCons g gr) := by
  obtain ⟨t, p, q⟩ := h
  obtain ⟨t', p', q'⟩ := hr
  refine ⟨_, pgs_cons p p' hs, fun ds vs ρ ρ' M F ι σ H Q rl er rv e k => ?_⟩
  cases rv with
  | nil => cases e
  | cons r rr =>
    obtain ⟨ρ1, e1, e2⟩ := Option.bind_eq_some_iff.mp e
    exact ⟨_, _, rfl, q _ _ ρ ρ1 M F ι σ H _ rl er r e1 fun σ1 er1 k1 => q' _ _ ρ1 ρ' M F ι σ1 H Q rl er1 rr e2 fun σ2 er2 k2 => k σ2 er2 (k1.trans k2)⟩
def gTupD (n : Nat) (g : GSs) : GS := fun M d ρ => match d with
  | .tup ds => if ds.length = n then g M ds ρ else none
  | _ => none
theorem sg_tup {ws : List Nat} {tgs : List Expr} {g : GSs} {n k : Nat} (hc : X.calm = true) (h : SGs X ws tgs g) (hn : (assignEach tgs X.env).length = n := by rfl) (hst : (assignEach tgs X.env).findIdx? (·.1) = none := by rfl) : SG X ws (.Tuple tgs k pos) (gTupD n g) := by
  obtain ⟨t, p, q⟩ := h
  refine ⟨_, pg_tup hc p hn hst, fun d v ρ ρ' M F ι σ H Q rl er rv e kk => ?_⟩
  cases rv with
  | tup hf hs =>
    unfold gTupD at e
    dsimp only at e
    split at e
    · rename_i hl
      exact ⟨_, _, rfl, sqt_up rl hf, hs.len.symm.trans hl, q _ _ ρ ρ' M F ι σ H Q rl er hs e kk⟩
    · cases e
  | _ => cases e
def gLstD (n : Nat) (g : GSs) : GS := fun M d ρ => match lstOf M d with
  | some ds => if ds.length = n then g M ds ρ else none
  | _ => none
theorem sg_lst {ws : List Nat} {tgs : List Expr} {g : GSs} {n k : Nat} (hc : X.calm = true) (h : SGs X ws tgs g) (hn : (assignEach tgs X.env).length = n := by rfl) (hst : (assignEach tgs X.env).findIdx? (·.1) = none := by rfl) : SG X ws (.Tuple tgs k pos) (gLstD n g) := by
  obtain ⟨t, p, q⟩ := h
  refine ⟨_, pg_lst hc p hn hst, fun d v ρ ρ' M F ι σ H Q rl er rv e kk => ?_⟩
  unfold gLstD at e
  split at e
  · rename_i ds hd
    split at e
    · rename_i hl
      obtain ⟨pp, vs, rfl, hp, hs⟩ := lstOf_at rl rv hd
      exact ⟨_, _, rfl, hp, hs.len.symm.trans hl, q _ _ ρ ρ' M F ι σ H Q rl er hs e kk⟩
    · cases e
  · cases e
def sAsg (a : ES) (g : GS) : SS := fun Γ ρ M => (a Γ ρ M).toS ρ fun d M1 => match g M1 d ρ with
  | some ρ1 => .next ρ1 M1
  | none => .stuck
theorem runAsg {te : TE} {gt : TG} {g : GS} {ws : List Nat} (k : ∀ ρ M F ι σ H Q, Rel X.K X.mg F ι M H → ER X.K X.mg F ι ρ σ → OkE X.K X.mg F ι H (se Γ ρ M) Q (WE W σ) → te σ H Q)
    (q : ∀ d v ρ ρ' M F ι σ H Q, Rel X.K X.mg F ι M H → ER X.K X.mg F ι ρ σ → RV X.K X.mg F ι d v → g M d ρ = some ρ' → (∀ σ', ER X.K X.mg F ι ρ' σ' → Keep ws σ σ' → Q σ' H) → gt v σ H Q) :
    ∀ ρ M F ι σ H D, Rel X.K X.mg F ι M H → ER X.K X.mg F ι ρ σ → OkS X.K X.mg F ι H (sAsg se g Γ ρ M) D W → tAsg te gt D σ H := by
  intro ρ M F ι σ H D rl er h
  refine k ρ M F ι σ H _ rl er ((OkS.bind er h).imp fun v H1 hv => ?_)
  obtain ⟨d, M1, F1, ι1, x1, rl1, rv1, h1⟩ := hv
  cases e : g M1 d ρ with
  | none => rw [e] at h1; exact h1.elim
  | some ρ1 =>
    rw [e] at h1
    exact q d v ρ ρ1 M1 F1 ι1 σ H1 D.nx rl1 (er.mono x1) rv1 e fun σ' er' _ => h1 F1 ι1 H1 σ' Ext.refl rl1 er'
theorem ss_asg {ws : List Nat} {tg : Expr} {g : GS} (h : SE X W Γ e se) (hg : SG X ws tg g) (hs : swapsWithSole [tg] e pos.line X.env = pure false := by rfl) (hw : swappedStores [tg] e X.env = pure none := by rfl)
    (h1 : (assignEach [tg] X.env).map (·.2) = [assign tg X.env] := by rfl) : SSt X W Γ (.Assign [tg] e pos) (sAsg se g) := by
  obtain ⟨t, p, k⟩ := h
  obtain ⟨t', p', q⟩ := hg
  exact ⟨_, ps_asg p p' hs hw h1, runAsg k q⟩
/-- x op= e -/
def sAug (i : Nat) (f : Mem → D → D → Option D) (a : ES) : SS := fun Γ ρ M => match ρ[i]? with
  | some (some x) => (a Γ ρ M).toS ρ fun y M1 => match f M1 x y with
    | some z => .next (ρ.set i (some z)) M1
    | none => .stuck
  | _ => .stuck
theorem ss_aug {i : Nat} {x : Str} {op : Operator} {r : R2} {f : Mem → D → D → Option D} {pos' : Pos} (hN : X.N.Nodup) (ho : PIp X op r) (hf : O2 X.K X.mg r f) (h : SE X W Γ e se) (hi : X.N[i]? = some x := by rfl) (hx : Loc X.env.scope x := by first | exact Or.inl rfl | exact Or.inr rfl)
    (hff : X.fn x = true ∨ X.env.scope.names.lookup x = some .local := by first | exact .inl rfl | exact .inr rfl | assumption) : SSt X W Γ (.AugAssign (.Name x pos') op e pos) (sAug i f se) := by
  obtain ⟨t, p, k⟩ := h
  refine ⟨_, ps_aug hN hi hx p ho hff, fun ρ M F ι σ H D rl er h => ?_⟩
  unfold sAug at h
  split at h
  · rename_i d e1
    obtain ⟨v, ev, rv⟩ := er.2 i d e1
    refine ⟨v, ev, k ρ M F ι σ H _ rl er ((OkS.bind er h).imp fun u H1 hu => ?_)⟩
    obtain ⟨y, M1, F1, ι1, x1, rl1, rv1, h1⟩ := hu
    cases e : f M1 d y with
    | none => rw [e] at h1; exact h1.elim
    | some z =>
      rw [e] at h1
      exact hf F1 ι1 M1 H1 _ d y z v u rl1 (rv.mono x1) rv1 e fun F2 ι2 H2 w x2 rl2 rw2 => h1 F2 ι2 H2 _ x2 rl2 (((er.mono x1).mono x2).set i rw2)
  · exact h.elim

/-! ### while -/
def whileL (t : TSm) (b : SS) (Γ : Calls) : Nat → Env → Mem → SR
  | 0, _, _ => .stuck
  | n + 1, ρ, M => match t Γ ρ M with
    | .ok true M1 => match b Γ ρ M1 with
      | .next ρ2 M2 => whileL t b Γ n ρ2 M2
      | .cnt ρ2 M2 => whileL t b Γ n ρ2 M2
      | .brk ρ2 M2 => .next ρ2 M2
      | r => r
    | .ok false M1 => .next ρ M1
    | .exc c fs M1 => .exc c fs ρ M1
    | .stuck => .stuck
def sWhile (n : Nat) (t : TSm) (b : SS) : SS := fun Γ ρ M => whileL t b Γ n ρ M
theorem ss_while (n : Nat) {c : Expr} {body : List Stmt} {ut : TSm} (hp : PassesOwn (model X.prog X.w) X.A X.env X.xe) (hc : ST X W Γ c ut) (hb : SSs X W Γ body sb) : SSt X W Γ (.While c body [] pos) (sWhile n ut sb) := by
  obtain ⟨t, p, k⟩ := hc
  obtain ⟨tb, pb, kb⟩ := hb
  refine ⟨_, ps_while hp p pb, fun ρ M F ι σ H D rl er h => ?_⟩
  refine ⟨fun m σ H => ∃ ρ M F ι, Rel X.K X.mg F ι M H ∧ ER X.K X.mg F ι ρ σ ∧ OkS X.K X.mg F ι H (whileL ut sb Γ m ρ M) D W, ⟨n, ρ, M, F, ι, rl, er, h⟩, ?_⟩
  rintro m σ H ⟨ρ, M, F, ι, rl, er, h⟩
  cases m with
  | zero => exact h.elim
  | succ m =>
    refine k ρ M F ι σ H _ rl er ?_
    unfold whileL at h
    generalize ut Γ ρ M = r at h ⊢
    cases r with
    | stuck => exact h
    | exc c fs M1 => exact fun F' ι' H' C d x rl' hc hx => h F' ι' H' σ C d x rl' (er.mono x) hc hx
    | ok b M1 =>
      intro F' ι' H' v x rl' e
      subst e
      cases b with
      | false =>
        rw [if_neg Bool.false_ne_true]
        exact h F' ι' H' σ x rl' (er.mono x)
      | true =>
        rw [if_pos rfl]
        refine ⟨fun σ2 H2 => ∃ ρ M F ι, Rel X.K X.mg F ι M H2 ∧ ER X.K X.mg F ι ρ σ2 ∧ OkS X.K X.mg F ι H2 (whileL ut sb Γ m ρ M) D W, fun σ2 H2 q => ⟨m, Nat.lt_succ_self m, q⟩, ?_⟩
        refine kb ρ M1 F' ι' σ H' _ rl' (er.mono x) ?_
        dsimp only at h
        generalize sb Γ ρ M1 = r2 at h ⊢
        cases r2 with
        | next ρ2 M2 => exact fun F2 ι2 H2 σ2 y rl2 er2 => ⟨ρ2, M2, F2, ι2, rl2, er2, OkS.step (x.trans y) h⟩
        | cnt ρ2 M2 => exact fun F2 ι2 H2 σ2 y rl2 er2 => ⟨ρ2, M2, F2, ι2, rl2, er2, OkS.step (x.trans y) h⟩
        | brk ρ2 M2 => exact fun F2 ι2 H2 σ2 y rl2 er2 => h F2 ι2 H2 σ2 (x.trans y) rl2 er2
        | ret d M2 => exact OkS.step x h
        | exc c fs ρ2 M2 => exact OkS.step x h
        | stuck => exact h

/-! ### what is walked -/
structure ItOk (K : PySem.W.Frag) (mg : Str → Option Value) (F : Hp) (ι : List Addr) (ds : List D) (J : It) : Prop where
  go : ∀ i F' ι' M H, (∀ a o, F a = some o → F' a = some o) → (∃ t, ι' = ι ++ t) → Rel K mg F' ι' M H → i < ds.length → J.go i H
  yld : ∀ i F' ι' M H x H', (∀ a o, F a = some o → F' a = some o) → (∃ t, ι' = ι ++ t) → Rel K mg F' ι' M H → i < ds.length → J.yld i H x H' → ∃ F2, Ext F' ι' H F2 ι' H' ∧ Rel K mg F2 ι' M H' ∧ ∃ d, ds[i]? = some d ∧ RV K mg F2 ι' d x
  stop : ∀ i F' ι' M H, (∀ a o, F a = some o → F' a = some o) → (∃ t, ι' = ι ++ t) → Rel K mg F' ι' M H → ds.length ≤ i → J.stop i H
def SI (X : Cx) (W : WX) (Γ : Calls) (tg iter : Expr) (s : AS) : Prop :=
  ∃ wi : TI, PI X tg iter wi ∧ ∀ ρ M F ι σ H R, Rel X.K X.mg F ι M H → ER X.K X.mg F ι ρ σ → OkG (ItOk X.K X.mg) X.K X.mg F ι H (s Γ ρ M) R (WE W σ) → wi σ H R
def forL (g : GS) (b : SS) (Γ : Calls) : List D → Env → Mem → SR
  | [], ρ, M => .next ρ M
  | d :: ds, ρ, M => match g M d ρ with
    | none => .stuck
    | some ρ1 => match b Γ ρ1 M with
      | .next ρ2 M2 => forL g b Γ ds ρ2 M2
      | .cnt ρ2 M2 => forL g b Γ ds ρ2 M2
      | .brk ρ2 M2 => .next ρ2 M2
      | r => r
def sFor (s : AS) (g : GS) (b : SS) : SS := fun Γ ρ M => (s Γ ρ M).toS ρ fun ds M1 => forL g b Γ ds ρ M1
theorem ss_for {tg iter : Expr} {body : List Stmt} {si : AS} {g : GS} {ws : List Nat} (hp : PassesOwn (model X.prog X.w) X.A X.env X.xe) (hc : X.calm = true) (hi : SI X W Γ tg iter si) (hg : SG X ws tg g) (hb : SSs X W Γ body sb)
    (hs : ∀ x, foldedSetIterable iter X.env x = pure x := by intro _; rfl) : SSt X W Γ (.For tg iter body [] pos) (sFor si g sb) := by
  obtain ⟨wi, pi, ki⟩ := hi
  obtain ⟨gt, pg, kg⟩ := hg
  obtain ⟨tb, pb, kb⟩ := hb
  refine ⟨_, ps_for hp hc pi pg pb hs, fun ρ M F ι σ H D rl er h => ?_⟩
  refine ki ρ M F ι σ H _ rl er ((OkS.bind er h).imp fun J H1 hv => ?_)
  obtain ⟨ds, M1, F1, ι1, x1, rl1, it, h1⟩ := hv
  refine ⟨fun i m σ H => m = ds.length - i ∧ i ≤ ds.length ∧ ∃ ρ M F ι, (∀ a o, F1 a = some o → F a = some o) ∧ (∃ t, ι = ι1 ++ t) ∧ Rel X.K X.mg F ι M H ∧ ER X.K X.mg F ι ρ σ ∧ OkS X.K X.mg F ι H (forL g sb Γ (ds.drop i) ρ M) D W,
    ⟨ds.length, rfl, Nat.zero_le _, ρ, M1, F1, ι1, fun _ _ q => q, ⟨[], by simp⟩, rl1, er.mono x1, by simpa using h1⟩, ?_⟩
  rintro i m σ H ⟨rfl, hi, ρ, M, F, ι, hF, hι, rl, er, h⟩
  by_cases hlt : i < ds.length
  · refine .inr ⟨it.go i F ι M H hF hι rl hlt, fun σ' H' => ∃ ρ M F ι, (∀ a o, F1 a = some o → F a = some o) ∧ (∃ t, ι = ι1 ++ t) ∧ Rel X.K X.mg F ι M H' ∧ ER X.K X.mg F ι ρ σ' ∧ OkS X.K X.mg F ι H' (forL g sb Γ (ds.drop (i + 1)) ρ M) D W,
      fun σ' H' q => ⟨ds.length - (i + 1), by omega, rfl, hlt, q⟩, fun x H' hy => ?_⟩
    obtain ⟨F2, x2, rl2, d, hd, rv⟩ := it.yld i F ι M H x H' hF hι rl hlt hy
    have e : ds.drop i = d :: ds.drop (i + 1) := by
      rw [List.drop_eq_getElem_cons hlt]
      rw [List.getElem?_eq_getElem hlt] at hd
      cases hd
      rfl
    rw [e] at h
    unfold forL at h
    cases eg : g M d ρ with
    | none => rw [eg] at h; exact h.elim
    | some ρ1 =>
      rw [eg] at h
      dsimp only at h
      refine kg d x ρ ρ1 M F2 ι σ H' _ rl2 (er.mono x2) rv eg fun σ' er' _ => ?_
      refine kb ρ1 M F2 ι σ' H' _ rl2 er' ?_
      generalize sb Γ ρ1 M = r2 at h ⊢
      have nxt : ∀ ρ2 M2, OkS X.K X.mg F ι H (forL g sb Γ (ds.drop (i + 1)) ρ2 M2) D W → ∀ F' ι' H2 σ2, Ext F2 ι H' F' ι' H2 → Rel X.K X.mg F' ι' M2 H2 → ER X.K X.mg F' ι' ρ2 σ2 →
          ∃ ρ M F ι, (∀ a o, F1 a = some o → F a = some o) ∧ (∃ t, ι = ι1 ++ t) ∧ Rel X.K X.mg F ι M H2 ∧ ER X.K X.mg F ι ρ σ2 ∧ OkS X.K X.mg F ι H2 (forL g sb Γ (ds.drop (i + 1)) ρ M) D W := by
        intro ρ2 M2 h F' ι' H2 σ2 y rl' er'
        refine ⟨ρ2, M2, F', ι', fun a o q => y.f a o (x2.f a o (hF a o q)), ?_, rl', er', OkS.step (x2.trans y) h⟩
        obtain ⟨t1, rfl⟩ := hι
        obtain ⟨t2, rfl, _⟩ := y.i
        exact ⟨t1 ++ t2, by simp⟩
      cases r2 with
      | next ρ2 M2 => exact nxt ρ2 M2 h
      | cnt ρ2 M2 => exact nxt ρ2 M2 h
      | brk ρ2 M2 => exact fun F' ι' H2 σ2 y rl' er' => h F' ι' H2 σ2 (x2.trans y) rl' er'
      | ret d M2 => exact OkS.step x2 h
      | exc c fs ρ2 M2 => exact OkS.step x2 h
      | stuck => exact h
  · have e : ds.drop i = [] := List.drop_eq_nil_iff.mpr (by omega)
    rw [e] at h
    exact .inl ⟨it.stop i F ι M H hF hι rl (by omega), h F ι H σ Ext.refl rl er⟩
end
end MP
set_option maxRecDepth 100000
set_option maxHeartbeats 4000000
/-! enumerate(t), t a tuple -/
namespace PySem
theorem mpEnumNewT (tp : Addr) (its : Array Value) :
    Meets (Builtin.«enumerate.__new__» ⟨[.type "enumerate", .ref tp], []⟩) (fun _ R z => z.heap.IsTuple tp its ∧
      R (.ok (.ret (.ref (z.heap.push { cls := .type "tuple_iterator", data := .fields #[.ref tp, .int 0 0] }).objs.size)))
        { z with heap := (z.heap.push { cls := .type "tuple_iterator", data := .fields #[.ref tp, .int 0 0] }).push { cls := .type "enumerate", data := .fields #[.none, .bool false, .ref z.heap.objs.size, rawInt 0, .none, .none] } }) :=
  .of_wp fun prog w A R z hz => by
    obtain ⟨hp, g, d, tk, os⟩ := z
    obtain ⟨h1, h2⟩ := hz
    have sub1 := sub_enumerate
    have it1 : ∀ {A' : Around} {E : Value → Shared → Prop} {Q : Value → Shared → Prop}, Q (.ref hp.objs.size) ⟨hp.push { cls := .type "tuple_iterator", data := .fields #[.ref tp, .int 0 0] }, g, d, tk, os⟩ → wpAny (model prog w) A' (pyIter (.ref tp)) Q E ⟨hp, g, d, tk, os⟩ :=
      fun q => (begins_tuple tp its).iter prog w _ _ ⟨hp, g, d, tk, os⟩ _ h1 q
    wp_walk using it1
    refine wpAny_stack_any fun fr => wpAny_pure ?_
    split
    · rename_i cc _ _ _ _ _
      cases (cc == Value.type "enumerate")
      · (wp_walk using it1); exact ⟨_, rfl, h2⟩
      · (wp_walk using it1); exact ⟨_, rfl, h2⟩
    · (wp_walk using it1); exact ⟨_, rfl, h2⟩
theorem mpEnumCallT {prog : Program} {w : World} {A : Around} {E : Value → Shared → Prop} {z : Shared} {tp : Addr} {its : Array Value} {Q : Value → Shared → Prop} (ht : z.heap.IsTuple tp its)
    (h : ∀ h', IsEnum h' (z.heap.objs.size + 1) z.heap.objs.size 0 .none → h'.IsTupleIter z.heap.objs.size tp 0 → h'.objs.size = z.heap.objs.size + 2 → (∀ b o, z.heap.get? b = some o → h'.get? b = some o) → Q (.ref (z.heap.objs.size + 1)) { z with heap := h' }) :
    wpAny (model prog w) A (call (.type "enumerate") [.ref tp]) Q E z := by
  refine callType_new F.called_enumerate (by decide) (F.typeCall_enumerate_1 _) (F.newCall_enumerate_1 _) (fun ob => F.args_object_init_2 ob _) F.entry_enumerate_new (mpEnumNewT tp its) ⟨ht, ?_⟩
  have hsz : (z.heap.push { cls := .type "tuple_iterator", data := .fields #[.ref tp, .int 0 0] }).objs.size = z.heap.objs.size + 1 := Heap.size_push ..
  show _ ∧ _
  rw [hsz]
  have hen : IsEnum ((z.heap.push { cls := .type "tuple_iterator", data := .fields #[.ref tp, .int 0 0] }).push { cls := .type "enumerate", data := .fields #[.none, .bool false, .ref z.heap.objs.size, rawInt 0, .none, .none] }) (z.heap.objs.size + 1) z.heap.objs.size 0 .none := by
    have q := Heap.get?_push_size (z.heap.push { cls := .type "tuple_iterator", data := .fields #[.ref tp, .int 0 0] }) (o := { cls := .type "enumerate", data := .fields #[.none, .bool false, .ref z.heap.objs.size, rawInt 0, .none, .none] }) rfl
    rw [hsz] at q; exact q
  exact ⟨⟨_, hen, rfl⟩, h _ hen ⟨_, Heap.get?_push_of_some _ (Heap.get?_push_size _ rfl), rfl, rfl⟩ (by rw [Heap.size_push, hsz]) fun b o y => Heap.get?_push_of_some _ (Heap.get?_push_of_some _ y)⟩
end PySem
namespace L2
open PySem PySem.Spec PyProof.Rows
def IteT (K : PySem.W.Frag) (a : Addr) : It :=
  ⟨fun i H => ∃ (xs : List V) (x : V), SqT K H a xs ∧ xs[i]? = some x, fun i H v H' => ∃ T x, v = .ref T ∧ H T = none ∧ H' = upd H T (.tup [.int (i : Nat), x]) ∧ ∀ xs, SqT K H a xs → xs[i]? = some x, fun i H => ∃ xs : List V, SqT K H a xs ∧ xs.length ≤ i⟩
theorem mpTurnEnumT {P : Program} {w : World} {K : PySem.W.Frag} {elts : List Expr} {kk : Nat} {tpos : Pos} (a en it : Addr) :
    Turn P w K (.Tuple elts kk tpos) (IteT K a) [en, it] en (fun i h => (∃ old, IsEnum h en it ((i : Nat) : Int) old) ∧ h.IsTupleIter it a i ∧ en ≠ it) where
  mem := by simp
  obj := fun i h q b hb => by
    obtain ⟨⟨old, he⟩, ⟨o, ho, hc, hd⟩, _⟩ := q
    have e' : b = en ∨ b = it := by simpa using hb
    rcases e' with z | z
    · subst z; exact ⟨_, he, fun v q => nomatch q⟩
    · subst z; exact ⟨o, ho, fun v q => by rw [hd] at q; cases q⟩
  keep := fun i h h' q k => let ⟨⟨old, he⟩, hi, hne⟩ := q; ⟨⟨old, k en (by simp) _ he⟩, hi.at fun o r => k it (by simp) o r, hne⟩
  item := by
    intro X hP hw hK hc i pins s σ H E I hf q hg
    subst hP hw hK
    obtain ⟨⟨old, he⟩, hit, hne⟩ := q
    obtain ⟨xs, x, hq, hx⟩ := hg
    obtain ⟨its, rv, p, hz⟩ := I.tuple hq
    obtain ⟨u, hu, ru⟩ := rv.get hx
    have hel : en < s.heap.objs.size := Heap.lt_size he
    have hil : it < s.heap.objs.size := by obtain ⟨_, r, _⟩ := hit; exact Heap.lt_size r
    have hp : s.heap.IsTuple a its.toArray := p
    have nai : a ≠ it := by
      intro z
      obtain ⟨o1, h1, c1, _⟩ := hit
      obtain ⟨o2, h2, c2, _⟩ := hp
      rw [z, h1] at h2; cases h2; rw [c1] at c2; exact absurd c2 (by decide)
    have nae : en ∉ [it, a] := by
      intro z
      rcases List.mem_cons.mp z with z | z
      · exact hne z
      · have z := List.mem_singleton.mp z
        obtain ⟨o2, h2, c2, _⟩ := hp
        rw [← z, he] at h2; cases h2; exact absurd (show Value.type "enumerate" = Value.type "tuple" from c2) (by decide)
    have hlt : i < its.toArray.size := by
      rw [List.size_toArray]
      exact (List.getElem?_eq_some_iff.mp hu).1
    refine wpAny_pyNext_enum_itemD (Draws.tuple (A := X.A.in1) (I.ok.hd hc) it a nai its.toArray) he ⟨hit, hp⟩ hlt hne nae fun x' h' tk hx' ho hst hT hsz hk => ?_
    have ex : x' = u := by
      have hx'' : its[i]? = some x' := by simpa using hx'
      rw [hu] at hx''; cases hx''; rfl
    subst ex
    refine ⟨_, rfl, wpAny_letOwnedTupleGo_enum (s := { s with heap := h', toks := tk + 1 }) ho fun h'' he' sb => ?_⟩
    have hT2 : h''.get? s.heap.objs.size = some { cls := .type "tuple", data := .seq #[.int i tk, x'] } := (sb.2 _ (Nat.ne_of_gt hel)).trans hT
    have new : ObjOk X.prog X.w (upd H s.heap.objs.size (.tup [.int (i : Nat), x])) h'' s.heap.objs.size (.tup [.int (i : Nat), x]) :=
      ⟨by show 2 ≤ sizeLine; decide, [.int i tk, x'], .cons ⟨_, rfl⟩ (.cons ru .nil), ⟨_, hT2, rfl, _, rfl⟩⟩
    have I1 : Inv X pins σ (upd H s.heap.objs.size (.tup [.int (i : Nat), x])) { s with heap := h'', toks := tk + 1 } :=
      I.turnedNew (ch := [en, it]) (fun b ob hb r => (sb.2 b (fun z => hb (by simp [z]))).trans (hk b ob (fun z => hb (by simp [z])) (fun z => hb (by simp [z])) r)) hf (Nat.le_refl _) new
    refine ⟨.ref s.heap.objs.size, _, I1, rfl, ⟨_, x, rfl, I.hok.fresh (Nat.le_refl _), rfl, fun ys hy => by rw [I.tuple_inj hy hq]; exact hx⟩, ⟨⟨x', ?_⟩, hst.1.at fun o r => (sb.2 it (Ne.symm hne)).trans r, hne⟩, fun b hb => ?_⟩
    · have e1 : ((i + 1 : Nat) : Int) = (i : Int) + 1 := by omega
      rw [e1]; exact he'
    · have hb' : b < s.heap.objs.size := by
        have e' : b = en ∨ b = it := by simpa using hb
        rcases e' with z | z
        · subst z; exact hel
        · subst z; exact hil
      rw [upd_ne (Nat.ne_of_lt hb')]
      exact (hf b hb).1
  done := by
    intro X hP hw hK hc i pins s σ H E I hf q hg
    subst hP hw hK
    obtain ⟨⟨old, he⟩, hit, hne⟩ := q
    obtain ⟨xs, hq, hx⟩ := hg
    obtain ⟨its, rv, p, hz⟩ := I.tuple hq
    obtain ⟨f0, f1, f2, f3, f4, f5⟩ := hf it (by simp)
    have hl := rv.length
    have hp : s.heap.IsTuple a its.toArray := p
    have D0 : Draws X.prog X.w X.A.in1 it [it, a] 0 (fun _ _ => True) (fun _ h => h.IsTupleIter it a i ∧ h.IsTuple a its.toArray) :=
      ⟨fun j h r => let ⟨o, ho, _⟩ := r.1; ⟨o, ho⟩, fun j h h' r k => ⟨r.1.at fun o e => k it (by simp) o e, r.2.at fun o e => k a (by simp) o e⟩, fun j s' Q' E' hj => absurd hj (Nat.not_lt_zero _),
        fun s' Q' E' r k => wpAny_nextOf_tuple_end (A := X.A.in1) (I.ok.hd hc) r.1 r.2 (by simp; omega) k⟩
    exact wpAny_pyNext_enum_endD D0 he ⟨hit, hp⟩ fun h' eb => ⟨rfl, I.turned (t' := s.toks) (fun b o hb r => eb b o hb r) f0 f1 f3 f4 f5⟩
  self := fun A i s Q E q h => let ⟨⟨_, he⟩, _⟩ := q; wpAny_pyIter_enum he h
end L2
set_option maxRecDepth 100000
set_option maxHeartbeats 4000000
namespace MP
open PySem L2

section
variable {K : PySem.W.Frag} {mg : Str → Option Value} {F : Hp} {ι : List Addr} {H : Hp} {M : Mem}
/-! ### iterators over data -/
theorem RV.up {F' : Hp} {ι' : List Addr} (hF : ∀ a o, F a = some o → F' a = some o) (hι : ∃ t, ι' = ι ++ t) {d : D} {v : V} (r : RV K mg F ι d v) : RV K mg F' ι' d v := by
  obtain ⟨t, rfl⟩ := hι
  exact r.mono (H := fun _ => none) (H' := fun _ => none) ⟨hF, ⟨t, rfl, fun _ _ => rfl⟩, fun _ _ q _ => (by cases q), fun _ _ q _ _ => (by cases q), fun _ _ q => (by cases q)⟩
theorem sqt_F {F' : Hp} (hF : ∀ a o, F a = some o → F' a = some o) {a : Addr} {vs : List V} (h : SqT K F a vs) : SqT K F' a vs := by
  rcases h with (h | ⟨o, h⟩) | h
  · exact .inl (.inl (hF _ _ h))
  · exact .inl (.inr ⟨o, hF _ _ h⟩)
  · exact .inr h
theorem sql_F {F' : Hp} (hF : ∀ a o, F a = some o → F' a = some o) {a : Addr} {vs : List V} (h : SqL K F a vs) : SqL K F' a vs := by
  rcases h with (h | ⟨o, h⟩) | h
  · exact .inl (.inl (hF _ _ h))
  · exact .inl (.inr ⟨o, hF _ _ h⟩)
  · exact .inr h
theorem sql_up (rl : Rel K mg F ι M H) {p : Addr} {vs : List V} (h : SqL K F p vs) : SqL K H p vs := by
  rcases h with (hf | ⟨o, hf⟩) | hf
  · exact .inl (.inl (rl.sub _ _ hf))
  · exact .inl (.inr ⟨o, rl.sub _ _ hf⟩)
  · exact .inr hf
theorem ItOk.scr {a : Addr} {ds : List D} {vs : List V} (h : SqL K F a vs) (r : RVs K mg F ι ds vs) : ItOk K mg F ι ds (Itl K a) := by
  refine ⟨fun i F' ι' M H hF hι rl hi => ?_, fun i F' ι' M H x H' hF hι rl hi hy => ?_, fun i F' ι' M H hF hι rl hi => ?_⟩
  · exact ⟨vs, vs[i]'(by rw [← r.len]; exact hi), sql_up rl (sql_F hF h), by simp⟩
  · obtain ⟨rfl, hx⟩ := hy
    have hx := hx vs (sql_up rl (sql_F hF h))
    refine ⟨F', Ext.refl, rl, ds[i], by simp [hi], ?_⟩
    obtain ⟨v, hv, rv⟩ := r.get (i := i) (d := ds[i]) (by simp [hi])
    rw [hx] at hv; cases hv
    exact rv.up hF hι
  · exact ⟨vs, sql_up rl (sql_F hF h), by rw [← r.len]; exact hi⟩
theorem ItOk.tup {a : Addr} {ds : List D} {vs : List V} (h : SqT K F a vs) (r : RVs K mg F ι ds vs) : ItOk K mg F ι ds (Itt K a) := by
  refine ⟨fun i F' ι' M H hF hι rl hi => ?_, fun i F' ι' M H x H' hF hι rl hi hy => ?_, fun i F' ι' M H hF hι rl hi => ?_⟩
  · exact ⟨vs, vs[i]'(by rw [← r.len]; exact hi), sqt_up rl (sqt_F hF h), by simp⟩
  · obtain ⟨rfl, hx⟩ := hy
    have hx := hx vs (sqt_up rl (sqt_F hF h))
    refine ⟨F', Ext.refl, rl, ds[i], by simp [hi], ?_⟩
    obtain ⟨v, hv, rv⟩ := r.get (i := i) (d := ds[i]) (by simp [hi])
    rw [hx] at hv; cases hv
    exact rv.up hF hι
  · exact ⟨vs, sqt_up rl (sqt_F hF h), by rw [← r.len]; exact hi⟩
def chars (z : Str) : List D := z.cps.toList.map fun c => .str ⟨#[c]⟩
theorem ItOk.chr {z : Str} : ItOk K mg F ι (chars z) (Its z) := by
  have hl : (chars z).length = z.cps.size := by simp [chars]
  refine ⟨fun i F' ι' M H hF hι rl hi => ?_, fun i F' ι' M H x H' hF hι rl hi hy => ?_, fun i F' ι' M H hF hι rl hi => ?_⟩
  · show i < z.cps.size
    rw [← hl]; exact hi
  · obtain ⟨rfl, c, hc, rfl⟩ := hy
    refine ⟨F', Ext.refl, rl, .str ⟨#[c]⟩, ?_, .str _⟩
    unfold chars
    rw [List.getElem?_map, Array.getElem?_toList, hc]
    rfl
  · show z.cps.size ≤ i
    rw [← hl]; exact hi
def rints (lo : Int) (n : Nat) : List D := (List.range n).map fun i => .int (lo + (i : Nat))
theorem ItOk.rng {lo : Int} {n : Nat} : ItOk K mg F ι (rints lo n) (Itr lo n) := by
  have hl : (rints lo n).length = n := by simp [rints]
  refine ⟨fun i F' ι' M H hF hι rl hi => ?_, fun i F' ι' M H x H' hF hι rl hi hy => ?_, fun i F' ι' M H hF hι rl hi => ?_⟩
  · show i < n
    rw [← hl]; exact hi
  · obtain ⟨rfl, rfl⟩ := hy
    have hi' : i < n := by rw [← hl]; exact hi
    refine ⟨F', Ext.refl, rl, .int (lo + (i : Nat)), ?_, .int _⟩
    unfold rints
    rw [List.getElem?_map, List.getElem?_range hi']
    rfl
  · show n ≤ i
    rw [← hl]; exact hi
def pairsFrom : Nat → List D → List D
  | _, [] => []
  | n, d :: ds => .tup [.int (n : Nat), d] :: pairsFrom (n + 1) ds
theorem pairs_len : ∀ (n : Nat) (ds : List D), (pairsFrom n ds).length = ds.length
  | _, [] => rfl
  | n, d :: ds => by simp [pairsFrom, pairs_len (n + 1) ds]
theorem pairs_get : ∀ (n : Nat) (ds : List D) (i : Nat) (d : D), ds[i]? = some d → (pairsFrom n ds)[i]? = some (.tup [.int ((n + i : Nat) : Int), d])
  | n, x :: ds, 0, d, h => by simp at h; subst h; rfl
  | n, x :: ds, i + 1, d, h => by
    have q := pairs_get (n + 1) ds i d (by simpa using h)
    simp only [pairsFrom, List.getElem?_cons_succ]
    rw [q]
    have : n + 1 + i = n + (i + 1) := by omega
    rw [this]
theorem ItOk.enumT {a : Addr} {ds : List D} {vs : List V} (h : SqT K F a vs) (r : RVs K mg F ι ds vs) : ItOk K mg F ι (pairsFrom 0 ds) (IteT K a) := by
  refine ⟨fun i F' ι' M H hF hι rl hi => ?_, fun i F' ι' M H x H' hF hι rl hi hy => ?_, fun i F' ι' M H hF hι rl hi => ?_⟩
  · rw [pairs_len] at hi
    exact ⟨vs, vs[i]'(by rw [← r.len]; exact hi), sqt_up rl (sqt_F hF h), by simp⟩
  · rw [pairs_len] at hi
    obtain ⟨T, y, rfl, hn, rfl, hx⟩ := hy
    have hx := hx vs (sqt_up rl (sqt_F hF h))
    obtain ⟨v, hv, rv⟩ := r.get (i := i) (d := ds[i]) (by simp [hi])
    rw [hx] at hv; cases hv
    have x1 : Ext F' ι' H _ ι' _ := Ext.new (o := .tup [.int (i : Nat), y]) rl hn
    refine ⟨_, x1, rl.new hn, _, pairs_get 0 ds i ds[i] (by simp [hi]), .tup (SqT.of upd_same) (.cons ?_ (.cons ((rv.up hF hι).mono x1) .nil))⟩
    rw [Nat.zero_add]; exact .int _
  · rw [pairs_len] at hi
    exact ⟨vs, sqt_up rl (sqt_F hF h), by rw [← r.len]; exact hi⟩
theorem ItOk.enumL {a : Addr} {ds : List D} {vs : List V} (h : SqL K F a vs) (r : RVs K mg F ι ds vs) : ItOk K mg F ι (pairsFrom 0 ds) (Ite K a) := by
  refine ⟨fun i F' ι' M H hF hι rl hi => ?_, fun i F' ι' M H x H' hF hι rl hi hy => ?_, fun i F' ι' M H hF hι rl hi => ?_⟩
  · rw [pairs_len] at hi
    exact ⟨vs, vs[i]'(by rw [← r.len]; exact hi), sql_up rl (sql_F hF h), by simp⟩
  · rw [pairs_len] at hi
    obtain ⟨T, y, rfl, hn, rfl, hx⟩ := hy
    have hx := hx vs (sql_up rl (sql_F hF h))
    obtain ⟨v, hv, rv⟩ := r.get (i := i) (d := ds[i]) (by simp [hi])
    rw [hx] at hv; cases hv
    have x1 : Ext F' ι' H _ ι' _ := Ext.new (o := .tup [.int (i : Nat), y]) rl hn
    refine ⟨_, x1, rl.new hn, _, pairs_get 0 ds i ds[i] (by simp [hi]), .tup (SqT.of upd_same) (.cons ?_ (.cons ((rv.up hF hι).mono x1) .nil))⟩
    rw [Nat.zero_add]; exact .int _
  · rw [pairs_len] at hi
    exact ⟨vs, sql_up rl (sql_F hF h), by rw [← r.len]; exact hi⟩
def zipD : List D → List D → List D
  | a :: as, b :: bs => .tup [a, b] :: zipD as bs
  | _, _ => []
theorem zip_len : ∀ (as bs : List D), (zipD as bs).length = min as.length bs.length
  | [], _ => by simp [zipD]
  | _ :: _, [] => by simp [zipD]
  | a :: as, b :: bs => by simp [zipD, zip_len as bs]
theorem zip_get : ∀ (as bs : List D) (i : Nat) (a b : D), as[i]? = some a → bs[i]? = some b → (zipD as bs)[i]? = some (.tup [a, b])
  | x :: as, y :: bs, 0, a, b, h, h' => by simp at h h'; subst h; subst h'; rfl
  | x :: as, y :: bs, i + 1, a, b, h, h' => by
    have q := zip_get as bs i a b (by simpa using h) (by simpa using h')
    simpa [zipD] using q
theorem ItOk.zipL {a b : Addr} {ds es : List D} {vs ws : List V} (h : SqL K F a vs) (r : RVs K mg F ι ds vs) (h' : SqL K F b ws) (r' : RVs K mg F ι es ws) : ItOk K mg F ι (zipD ds es) (Itz K a b) := by
  refine ⟨fun i F' ι' M H hF hι rl hi => ?_, fun i F' ι' M H x H' hF hι rl hi hy => ?_, fun i F' ι' M H hF hι rl hi => ?_⟩
  · rw [zip_len] at hi
    exact ⟨vs, ws, vs[i]'(by rw [← r.len]; omega), ws[i]'(by rw [← r'.len]; omega), sql_up rl (sql_F hF h), sql_up rl (sql_F hF h'), by simp, by simp⟩
  · rw [zip_len] at hi
    have h1 : i < ds.length := by omega
    have h2 : i < es.length := by omega
    obtain ⟨T, y, z, rfl, hn, rfl, hx, hz⟩ := hy
    have hx := hx vs (sql_up rl (sql_F hF h))
    have hz := hz ws (sql_up rl (sql_F hF h'))
    obtain ⟨v, hv, rv⟩ := r.get (i := i) (d := ds[i]) (by simp [h1])
    rw [hx] at hv; cases hv
    obtain ⟨u, hu, ru⟩ := r'.get (i := i) (d := es[i]) (by simp [h2])
    rw [hz] at hu; cases hu
    have x1 : Ext F' ι' H _ ι' _ := Ext.new (o := .tup [y, z]) rl hn
    exact ⟨_, x1, rl.new hn, _, zip_get ds es i ds[i] es[i] (by simp [h1]) (by simp [h2]), .tup (SqT.of upd_same) (.cons ((rv.up hF hι).mono x1) (.cons ((ru.up hF hι).mono x1) .nil))⟩
  · rw [zip_len] at hi
    exact ⟨vs, ws, sql_up rl (sql_F hF h), sql_up rl (sql_F hF h'), by rw [← r.len, ← r'.len]; omega⟩
end

section
variable {X : Cx} {W : WX} {Γ : Calls} {tg e : Expr} {se : ES} {pos p : Pos}
/-- a list that stands still, a tuple or a text -/
def frzOf (d : D) : Option (List D) := match d with
  | .lst xs => some xs
  | .scr xs => some xs
  | _ => none
def aLst (a : ES) : AS := fun Γ ρ M => (a Γ ρ M).bind fun x M1 => R.opt (frzOf x) M1
def aTup (a : ES) : AS := fun Γ ρ M => (a Γ ρ M).bind fun x M1 => match x with
  | .tup xs => .ok xs M1
  | _ => .stuck
def aStr (a : ES) : AS := fun Γ ρ M => (a Γ ρ M).bind fun x M1 => match x with
  | .str z => .ok (chars z) M1
  | _ => .stuck
theorem frzOf_at {K : PySem.W.Frag} {mg : Str → Option Value} {F : Hp} {ι : List Addr} {d : D} {v : V} {ds : List D} (h : frzOf d = some ds) (r : RV K mg F ι d v) : ∃ a vs, v = .ref a ∧ SqL K F a vs ∧ RVs K mg F ι ds vs := by
  cases r with
  | lst hf hs => cases h; exact ⟨_, _, rfl, SqL.of hf, hs⟩
  | scr hf hs => cases h; exact ⟨_, _, rfl, hf, hs⟩
  | _ => cases h
theorem si_list (h : SE X W Γ e se) : SI X W Γ tg e (aLst se) := by
  obtain ⟨t, q, k⟩ := h
  refine ⟨_, pi_list q, fun ρ M F ι σ H R rl er h => ?_⟩
  refine k ρ M F ι σ H _ rl er (OkG.bind h |>.imp fun v H1 hv => ?_)
  obtain ⟨d, M1, F1, ι1, x1, rl1, rv1, h1⟩ := hv
  cases e : frzOf d with
  | none => rw [e] at h1; exact h1.elim
  | some ds =>
    rw [e] at h1
    obtain ⟨a, vs, rfl, hs, rs⟩ := frzOf_at e rv1
    exact ⟨a, rfl, ⟨_, sql_up rl1 hs⟩, h1 F1 ι1 H1 _ Ext.refl rl1 (.scr hs rs)⟩
theorem si_tup (h : SE X W Γ e se) : SI X W Γ tg e (aTup se) := by
  obtain ⟨t, q, k⟩ := h
  refine ⟨_, pi_tup q, fun ρ M F ι σ H R rl er h => ?_⟩
  refine k ρ M F ι σ H _ rl er (OkG.bind h |>.imp fun v H1 hv => ?_)
  obtain ⟨d, M1, F1, ι1, x1, rl1, rv1, h1⟩ := hv
  cases rv1 with
  | tup hf hs => exact ⟨_, rfl, ⟨_, sqt_up rl1 hf⟩, h1 F1 ι1 H1 _ Ext.refl rl1 (.tup hf hs)⟩
  | _ => exact h1.elim
theorem si_str (h : SE X W Γ e se) : SI X W Γ tg e (aStr se) := by
  obtain ⟨t, q, k⟩ := h
  refine ⟨_, pi_str q, fun ρ M F ι σ H R rl er h => ?_⟩
  refine k ρ M F ι σ H _ rl er (OkG.bind h |>.imp fun v H1 hv => ?_)
  obtain ⟨d, M1, F1, ι1, x1, rl1, rv1, h1⟩ := hv
  cases rv1 with
  | str z => exact ⟨_, rfl, h1 F1 ι1 H1 _ Ext.refl rl1 .chr⟩
  | _ => exact h1.elim
def rngOk (i : Int) : Bool := decide (-(2 ^ 62) ≤ i) && decide (i < 2 ^ 62)
def aRng1 (a : AS) : AS := fun Γ ρ M => (a Γ ρ M).bind fun x M1 => match x with
  | [.int j] => if rngOk j = true then .ok (rints 0 j.toNat) M1 else .stuck
  | _ => .stuck
def aRng2 (a : AS) : AS := fun Γ ρ M => (a Γ ρ M).bind fun x M1 => match x with
  | [.int i, .int j] => if rngOk i = true ∧ rngOk j = true then .ok (rints i (j - i).toNat) M1 else .stuck
  | _ => .stuck
theorem rngOk_iff {i : Int} (h : rngOk i = true) : -(2 ^ 62) ≤ i ∧ i < 2 ^ 62 := by
  unfold rngOk at h
  simp only [Bool.and_eq_true, decide_eq_true_eq] at h
  exact h
theorem si_range1 {a : Expr} {sa : AS} (hm : X.mg "range" = none) (ha : SA X W Γ [a] sa) (hg : Gl X "range" := by rfl) (hs : starEach [a] X.env = [(false, eval a X.env)] := by rfl) : SI X W Γ tg (.Call (.Name "range" p) [a] [] pos) (aRng1 sa) := by
  obtain ⟨t, q, k⟩ := ha
  refine ⟨_, pi_range1 hg hm q hs, fun ρ M F ι σ H R rl er h => ?_⟩
  refine k ρ M F ι σ H _ rl er (OkG.bind h |>.imp fun v H1 hv => ?_)
  obtain ⟨d, M1, F1, ι1, x1, rl1, rv1, h1⟩ := hv
  split at h1
  · split at h1
    · rename_i j hj
      obtain ⟨u, rfl, ru⟩ := rv1.one
      cases ru
      obtain ⟨q1, q2⟩ := rngOk_iff hj
      exact ⟨_, rfl, q1, q2, h1 F1 ι1 H1 _ Ext.refl rl1 .rng⟩
    · exact h1.elim
  · exact h1.elim
theorem si_range2 {a b : Expr} {sa : AS} (hm : X.mg "range" = none) (ha : SA X W Γ [a, b] sa) (hg : Gl X "range" := by rfl) (hs : starEach [a, b] X.env = [(false, eval a X.env), (false, eval b X.env)] := by rfl) (hs2 : starEach [b] X.env = [(false, eval b X.env)] := by rfl) : SI X W Γ tg (.Call (.Name "range" p) [a, b] [] pos) (aRng2 sa) := by
  obtain ⟨t, q, k⟩ := ha
  refine ⟨_, pi_range2 hg hm q hs hs2, fun ρ M F ι σ H R rl er h => ?_⟩
  refine k ρ M F ι σ H _ rl er (OkG.bind h |>.imp fun v H1 hv => ?_)
  obtain ⟨d, M1, F1, ι1, x1, rl1, rv1, h1⟩ := hv
  split at h1
  · split at h1
    · rename_i i j hj
      obtain ⟨u, u2, rfl, ru, ru2⟩ := rv1.two
      cases ru; cases ru2
      obtain ⟨q1, q2⟩ := rngOk_iff hj.1
      obtain ⟨q3, q4⟩ := rngOk_iff hj.2
      exact ⟨_, _, rfl, ⟨q1, q2, q3, q4⟩, h1 F1 ι1 H1 _ Ext.refl rl1 .rng⟩
    · exact h1.elim
  · exact h1.elim
/-- enumerate of a list | of a tuple, zip of two lists -/
def aEnumL (a : AS) : AS := fun Γ ρ M => (a Γ ρ M).bind fun x M1 => match x with
  | [d] => R.opt ((frzOf d).map (pairsFrom 0)) M1
  | _ => .stuck
def aEnumT (a : AS) : AS := fun Γ ρ M => (a Γ ρ M).bind fun x M1 => match x with
  | [.tup ds] => .ok (pairsFrom 0 ds) M1
  | _ => .stuck
def aZip (a : AS) : AS := fun Γ ρ M => (a Γ ρ M).bind fun x M1 => match x with
  | [d, e] => match frzOf d, frzOf e with
    | some xs, some ys => .ok (zipD xs ys) M1
    | _, _ => .stuck
  | _ => .stuck
theorem si_enumL {sa : AS} {elts : List Expr} {kk : Nat} {tpos : Pos} (hm : X.mg "enumerate" = none) (ha : SA X W Γ [e] sa) (hg : Gl X "enumerate" := by rfl) (hs : starEach [e] X.env = [(false, eval e X.env)] := by rfl) :
    SI X W Γ (.Tuple elts kk tpos) (.Call (.Name "enumerate" p) [e] [] pos) (aEnumL sa) := by
  obtain ⟨t, q, k⟩ := ha
  refine ⟨_, pi_enum hg hm q hs, fun ρ M F ι σ H R rl er h => ?_⟩
  refine k ρ M F ι σ H _ rl er (OkG.bind h |>.imp fun v H1 hv => ?_)
  obtain ⟨d, M1, F1, ι1, x1, rl1, rv1, h1⟩ := hv
  split at h1
  · rename_i d
    obtain ⟨u, rfl, ru⟩ := rv1.one
    cases e : frzOf d with
    | none => rw [e] at h1; exact h1.elim
    | some ds =>
      rw [e] at h1
      obtain ⟨a, vs, rfl, hs, rs⟩ := frzOf_at e ru
      exact ⟨a, _, rfl, sql_up rl1 hs, h1 F1 ι1 H1 _ Ext.refl rl1 (.enumL hs rs)⟩
  · exact h1.elim
theorem pi_enumT {ta : TA} {elts : List Expr} {kk : Nat} {tpos : Pos} (hg : Gl X "enumerate") (hm : X.mg "enumerate" = none) (ha : PA X [e] ta) (hs : starEach [e] X.env = [(false, eval e X.env)]) :
    PI X (.Tuple elts kk tpos) (.Call (.Name "enumerate" p) [e] [] pos) (fun σ H R => ta σ H fun vs H1 => ∃ a xs, vs = [.ref a] ∧ SqT X.K H1 a xs ∧ R (IteT X.K a) H1) := by
  refine ⟨fun pins s σ H R I h => ?_⟩
  refine PyProof.Rows.Call_ (ld_blt I hg hm PyProof.Rows.boot_enumerate (PyProof.Rows.callWith_type1 (thn (ha.run pos pins s σ H _ I h) fun us s1 hh => ?_) hs rfl))
  obtain ⟨vs, H1, I1, r1, a, xs, ex, hq, q⟩ := hh
  subst ex
  cases r1 with
  | cons r rr =>
    cases rr
    cases r
    obtain ⟨its, rv, tp, hz⟩ := I1.tuple hq
    refine mpEnumCallT (show s1.heap.IsTuple a its.toArray from tp) fun h' he hit hsz hk => wpAny_pyIter_enum he ?_
    refine ⟨s1.heap.objs.size + 1, [s1.heap.objs.size + 1, s1.heap.objs.size], _, _, H1, rfl, I1.kept (t' := s1.toks) hk, mpTurnEnumT a (s1.heap.objs.size + 1) s1.heap.objs.size, ⟨⟨.none, he⟩, hit, Nat.succ_ne_self _⟩, fun b hb => ?_, q⟩
    have hle : s1.heap.objs.size ≤ b := by
      have e' : b = s1.heap.objs.size + 1 ∨ b = s1.heap.objs.size := by simpa using hb
      rcases e' with z | z
      · rw [z]; exact Nat.le_add_right _ _
      · rw [z]; exact Nat.le_refl _
    exact I1.fpOk hle (I1.hok.fresh hle)
theorem si_enumT {sa : AS} {elts : List Expr} {kk : Nat} {tpos : Pos} (hm : X.mg "enumerate" = none) (ha : SA X W Γ [e] sa) (hg : Gl X "enumerate" := by rfl) (hs : starEach [e] X.env = [(false, eval e X.env)] := by rfl) :
    SI X W Γ (.Tuple elts kk tpos) (.Call (.Name "enumerate" p) [e] [] pos) (aEnumT sa) := by
  obtain ⟨t, q, k⟩ := ha
  refine ⟨_, pi_enumT hg hm q hs, fun ρ M F ι σ H R rl er h => ?_⟩
  refine k ρ M F ι σ H _ rl er (OkG.bind h |>.imp fun v H1 hv => ?_)
  obtain ⟨d, M1, F1, ι1, x1, rl1, rv1, h1⟩ := hv
  split at h1
  · obtain ⟨u, rfl, ru⟩ := rv1.one
    cases ru with
    | tup hf hs => exact ⟨_, _, rfl, sqt_up rl1 hf, h1 F1 ι1 H1 _ Ext.refl rl1 (.enumT hf hs)⟩
  · exact h1.elim
theorem si_zip {e2 : Expr} {sa : AS} {elts : List Expr} {kk : Nat} {tpos : Pos} (hm : X.mg "zip" = none) (ha : SA X W Γ [e, e2] sa) (hg : Gl X "zip" := by rfl) (hs : starEach [e, e2] X.env = (false, eval e X.env) :: starEach [e2] X.env := by rfl) (hpl : (backTo pos (starEach [e2] X.env)).any (·.1) = false := by rfl) :
    SI X W Γ (.Tuple elts kk tpos) (.Call (.Name "zip" p) [e, e2] [] pos) (aZip sa) := by
  obtain ⟨t, q, k⟩ := ha
  refine ⟨_, pi_zip hg hm q hs hpl, fun ρ M F ι σ H R rl er h => ?_⟩
  refine k ρ M F ι σ H _ rl er (OkG.bind h |>.imp fun v H1 hv => ?_)
  obtain ⟨d, M1, F1, ι1, x1, rl1, rv1, h1⟩ := hv
  split at h1
  · split at h1
    · rename_i _ _ xs ys e1 e2
      obtain ⟨u, u2, rfl, ru, ru2⟩ := rv1.two
      obtain ⟨a, vs, rfl, hs, rs⟩ := frzOf_at e1 ru
      obtain ⟨b, ws, rfl, hs2, rs2⟩ := frzOf_at e2 ru2
      exact ⟨a, b, _, _, rfl, sql_up rl1 hs, sql_up rl1 hs2, h1 F1 ι1 H1 _ Ext.refl rl1 (.zipL hs rs hs2 rs2)⟩
    · exact h1.elim
  · exact h1.elim
end

/-! ### list comprehensions -/
def wipeD (ρ : Env) : List Nat → Env
  | [] => ρ
  | v :: vs => (wipeD ρ vs).set v none
def lcL (g : GS) (t : TSm) (el : ES) (Γ : Calls) (ρ : Env) : List D → Mem → R (List D)
  | [], M => .ok [] M
  | d :: ds, M => match g M d ρ with
    | none => .stuck
    | some ρ1 => match t Γ ρ1 M with
      | .ok true M1 => match el Γ ρ1 M1 with
        | .ok y M2 => match lcL g t el Γ ρ ds M2 with
          | .ok ys M3 => .ok (y :: ys) M3
          | _ => .stuck
        | _ => .stuck
      | .ok false M1 => lcL g t el Γ ρ ds M1
      | _ => .stuck
def eLc (s : AS) (g : GS) (t : TSm) (el : ES) (vs : List Nat) : ES := fun Γ ρ M => (s Γ ρ M).bind fun ds M1 => if ds.length ≤ sizeLine then (match lcL g t el Γ (wipeD ρ vs) ds M1 with
  | .ok ys M2 => .ok (.lst ys) M2
  | _ => .stuck) else .stuck
section
variable {K : PySem.W.Frag} {mg : Str → Option Value} {F F' F1 : Hp} {ι ι' ι1 : List Addr} {H H' H1 : Hp} {M : Mem}
theorem Ext.poke (x : Ext F ι H F' ι' H') {p : Addr} {o : HO} (h : H p = none) : Ext F ι H F' ι' (upd H' p o) := by
  refine ⟨x.f, x.i, fun a u e ha => ?_, x.n, fun a u e => ?_⟩
  · rw [upd_ne (ne_of_none e h)]; exact x.k a u e ha
  · obtain ⟨u', e'⟩ := x.p a u e
    exact ⟨u', by rw [upd_ne (ne_of_none e h)]; exact e'⟩
theorem Rel.poke (r : Rel K mg F ι M H) {p : Addr} {o : HO} (hf : F p = none) (hp : p ∉ ι) : Rel K mg F ι M (upd H p o) := by
  refine ⟨fun a u e => ?_, r.nd, r.len, fun a ha => ?_, fun k mo e => ?_⟩
  · rw [upd_ne (ne_of_none e hf)]; exact r.sub a u e
  · obtain ⟨u, e⟩ := r.hs a ha
    exact ⟨u, by rw [upd_ne (fun z => hp (by rw [← z]; exact ha))]; exact e⟩
  · obtain ⟨a, ha, hd | ⟨u, h1, h2, h3⟩⟩ := r.ob k mo e
    · exact ⟨a, ha, .inl hd⟩
    · exact ⟨a, ha, .inr ⟨u, h1, by rw [upd_ne (fun z => hp (by rw [← z]; exact mem_ix ha))]; exact h2, h3⟩⟩
theorem Ext.own (x : Ext F ι H F' ι' H') {p : Addr} {o : HO} (h : H p = none) (hf : F p = none) : Ext F ι H (upd F' p o) ι' H' := by
  refine ⟨fun a u e => ?_, x.i, x.k, fun a u e hn ha => ?_, x.p⟩
  · rw [upd_ne (ne_of_none e hf)]; exact x.f a u e
  · rw [upd_ne (ne_of_none e h)]; exact x.n a u e hn ha
theorem Rel.own (r : Rel K mg F ι M H) {p : Addr} {o : HO} (hf : F p = none) (hp : p ∉ ι) (ho : H p = some o) : Rel K mg (upd F p o) ι M H := by
  have x : Ext F ι (fun _ => none) (upd F p o) ι (fun _ => none) := ⟨fun a u e => by rw [upd_ne (ne_of_none e hf)]; exact e, ⟨[], by simp, by simp⟩, fun _ _ q _ => (by cases q), fun _ _ q _ _ => (by cases q), fun _ _ q => (by cases q)⟩
  refine ⟨fun a u e => ?_, r.nd, r.len, r.hs, fun k mo e => ?_⟩
  · by_cases q : a = p
    · subst q; rw [upd_same] at e; cases e; exact ho
    · rw [upd_ne q] at e; exact r.sub a u e
  · obtain ⟨a, ha, hd | ⟨u, h1, h2, h3⟩⟩ := r.ob k mo e
    · exact ⟨a, ha, .inl hd⟩
    · exact ⟨a, ha, .inr ⟨u, by rw [upd_ne (fun z => hp (by rw [← z]; exact mem_ix ha))]; exact h1, h2, h3.mono x⟩⟩
theorem ER.wipes {ρ : Env} {σ : St} (h : ER K mg F ι ρ σ) : ∀ vs : List Nat, ER K mg F ι (wipeD ρ vs) (wipe σ vs)
  | [] => h
  | v :: vs => (h.wipes vs).wipe1 v
end

section
variable {X : Cx} {W : WX} {Γ : Calls} {pos : Pos}
def STs (X : Cx) (W : WX) (Γ : Calls) (ifs : List Expr) (s : TSm) : Prop :=
  ∃ te : TT, PTs X ifs te ∧ ∀ ρ M F ι σ H Q, Rel X.K X.mg F ι M H → ER X.K X.mg F ι ρ σ → OkT X.K X.mg F ι H (s Γ ρ M) Q (WE W σ) → te σ H Q
def tYes' : TSm := fun _ _ M => .ok true M
theorem sts_nil : STs X W Γ [] tYes' := ⟨_, pts_nil, fun ρ M F ι σ H Q rl er h => OkT.ok' h rl⟩
theorem sts_one {c : Expr} {ut : TSm} (h : ST X W Γ c ut) : STs X W Γ [c] ut := by
  obtain ⟨t, p, k⟩ := h
  exact ⟨t, pts_one p, k⟩
/-- the parts of a comprehension's block: the same reading in every block -/
structure Blk (X : Cx) (Γ : Calls) (scope : Scope) (tg elt : Expr) (ifs : List Expr) (g : GS) (ut : TSm) (el : ES) (vs : List Nat) : Prop where
  parts : ∃ (gt : TG) (tt : TT) (te : TE), (∀ (s : Shared) (H : Hp) (C : Addr) (cl : List (Str × Addr)) (fp : List Addr), PG (X.blk s H scope (compEnvC scope cl C X.env) fp) tg gt) ∧
    (∀ (s : Shared) (H : Hp) (C : Addr) (cl : List (Str × Addr)) (fp : List Addr), PTs (X.blk s H scope (compEnvC scope cl C X.env) fp) ifs tt) ∧
    (∀ (s : Shared) (H : Hp) (C : Addr) (cl : List (Str × Addr)) (fp : List Addr), PE (X.blk s H scope (compEnvC scope cl C X.env) fp) elt te) ∧
    (∀ d v ρ ρ' M F ι σ H Q, Rel X.K X.mg F ι M H → ER X.K X.mg F ι ρ σ → RV X.K X.mg F ι d v → g M d ρ = some ρ' → (∀ σ', ER X.K X.mg F ι ρ' σ' → wipe σ' vs = wipe σ vs → Q σ' H) → gt v σ H Q) ∧
    (∀ ρ M F ι σ H Q, Rel X.K X.mg F ι M H → ER X.K X.mg F ι ρ σ → OkT X.K X.mg F ι H (ut Γ ρ M) Q (fun _ _ _ => False) → tt σ H Q) ∧
    (∀ ρ M F ι σ H Q, Rel X.K X.mg F ι M H → ER X.K X.mg F ι ρ σ → OkE X.K X.mg F ι H (el Γ ρ M) Q (fun _ _ _ => False) → te σ H Q)
theorem runLcG {fin : List D → Mem → R D} {wi : TI} {si : AS} {g : GS} {ut : TSm} {el : ES} {gt : TG} {tt : TT} {te : TE} {vs : List Nat}
    (ki : ∀ ρ M F ι σ H R, Rel X.K X.mg F ι M H → ER X.K X.mg F ι ρ σ → OkG (ItOk X.K X.mg) X.K X.mg F ι H (si Γ ρ M) R (WE W σ) → wi σ H R)
    (kg : ∀ d v ρ ρ' M F ι σ H Q, Rel X.K X.mg F ι M H → ER X.K X.mg F ι ρ σ → RV X.K X.mg F ι d v → g M d ρ = some ρ' → (∀ σ', ER X.K X.mg F ι ρ' σ' → wipe σ' vs = wipe σ vs → Q σ' H) → gt v σ H Q)
    (kt : ∀ ρ M F ι σ H Q, Rel X.K X.mg F ι M H → ER X.K X.mg F ι ρ σ → OkT X.K X.mg F ι H (ut Γ ρ M) Q (fun _ _ _ => False) → tt σ H Q)
    (ke : ∀ ρ M F ι σ H Q, Rel X.K X.mg F ι M H → ER X.K X.mg F ι ρ σ → OkE X.K X.mg F ι H (el Γ ρ M) Q (fun _ _ _ => False) → te σ H Q) (hw : ∀ σ : St, wipe (wipe σ vs) vs = wipe σ vs)
    (hfin : ∀ F1 ι1 H1 F ι H M D acc accv (Q : VK) (E : XK), Rel X.K X.mg F1 ι1 M H1 ∨ True → H1 D = none → F1 D = none → Ext F1 ι1 H1 F ι H → Rel X.K X.mg F ι M H → H D = some (.lst accv) → F D = none → D ∉ ι → RVs X.K X.mg F ι acc accv → OkE X.K X.mg F1 ι1 H1 (fin acc M) Q E → Q (.ref D) H) :
    ∀ ρ M F ι σ H Q, Rel X.K X.mg F ι M H → ER X.K X.mg F ι ρ σ → OkE X.K X.mg F ι H ((si Γ ρ M).bind fun ds M1 => if ds.length ≤ sizeLine then (match lcL g ut el Γ (wipeD ρ vs) ds M1 with
      | .ok ys M2 => fin ys M2
      | _ => .stuck) else .stuck) Q (WE W σ) → tLc wi gt tt te vs σ H Q := by
  intro ρ M F ι σ H Q rl er h
  refine ki ρ M F ι σ H _ rl er (OkG.bind h |>.imp fun J H1 hv => ?_)
  obtain ⟨ds, M1, F1, ι1, x1, rl1, it, h1⟩ := hv
  intro D hD
  split at h1
  case isFalse => exact h1.elim
  rename_i hz
  have f1 : F1 D = none := rl1.fnone hD
  have er1 := er.mono x1
  cases e0 : lcL g ut el Γ (wipeD ρ vs) ds M1 with
  | stuck => rw [e0] at h1; exact h1.elim
  | exc c fs M2 => rw [e0] at h1; exact h1.elim
  | ok ys0 Mz =>
  rw [e0] at h1
  dsimp only at h1
  have nD : D ∉ ι1 := fun z => by
    obtain ⟨o, q⟩ := rl1.hs D z
    rw [hD] at q; cases q
  refine ⟨fun i m H => m = ds.length - i ∧ i ≤ ds.length ∧ ∃ F ι M acc accv ys, Ext F1 ι1 H1 F ι H ∧ Rel X.K X.mg F ι M H ∧ H D = some (.lst accv) ∧ F D = none ∧ D ∉ ι ∧ RVs X.K X.mg F ι acc accv ∧ acc.length ≤ i ∧ lcL g ut el Γ (wipeD ρ vs) (ds.drop i) M = .ok ys Mz ∧ acc ++ ys = ys0,
    ⟨ds.length, rfl, Nat.zero_le _, F1, ι1, M1, [], [], ys0, Ext.refl.poke hD, rl1.junk hD, upd_same, f1, nD, .nil, Nat.le_refl _, by simpa using e0, rfl⟩, ?_⟩
  rintro i m H ⟨rfl, hi, F, ι, M, acc, accv, ys, x, rl, hacc, hF, hι, ra, hl, el0, hys⟩
  have up : (∀ a o, F1 a = some o → F a = some o) ∧ ∃ t, ι = ι1 ++ t := ⟨x.f, let ⟨t, q, _⟩ := x.i; ⟨t, q⟩⟩
  by_cases hlt : i < ds.length
  · refine .inr ⟨it.go i F ι M H up.1 up.2 rl hlt, fun H => ∃ F ι M acc accv ys, Ext F1 ι1 H1 F ι H ∧ Rel X.K X.mg F ι M H ∧ H D = some (.lst accv) ∧ F D = none ∧ D ∉ ι ∧ RVs X.K X.mg F ι acc accv ∧ acc.length ≤ i + 1 ∧ lcL g ut el Γ (wipeD ρ vs) (ds.drop (i + 1)) M = .ok ys Mz ∧ acc ++ ys = ys0,
      fun H' q => ⟨ds.length - (i + 1), by omega, rfl, hlt, q⟩, fun xv H' hy => ?_⟩
    obtain ⟨F2, x2, rl2, d, hd, rv⟩ := it.yld i F ι M H xv H' up.1 up.2 rl hlt hy
    have e : ds.drop i = d :: ds.drop (i + 1) := by
      rw [List.drop_eq_getElem_cons hlt]
      rw [List.getElem?_eq_getElem hlt] at hd
      cases hd
      rfl
    rw [e] at el0
    unfold lcL at el0
    have h2D : H' D = some (.lst accv) := x2.k D _ hacc hι
    have F2D : F2 D = none := x2.n D _ hacc hF hι
    have erw : ER X.K X.mg F2 ι (wipeD ρ vs) (wipe σ vs) := ((er1.mono x).mono x2).wipes vs
    cases eg : g M d (wipeD ρ vs) with
    | none => rw [eg] at el0; cases el0
    | some ρ1 =>
      rw [eg] at el0
      dsimp only at el0
      refine kg d xv (wipeD ρ vs) ρ1 M F2 ι (wipe σ vs) H' _ rl2 erw rv eg fun σ' er' hw' => ⟨hw'.trans (hw σ), ?_⟩
      refine kt ρ1 M F2 ι σ' H' _ rl2 er' ?_
      cases et : ut Γ ρ1 M with
      | stuck => rw [et] at el0; cases el0
      | exc c fs M2 => rw [et] at el0; cases el0
      | ok b M2 =>
        rw [et] at el0
        intro F3 ι3 H3 v x3 rl3 ev
        subst ev
        have h3D : H3 D = some (.lst accv) := x3.k D _ h2D hι
        have F3D : F3 D = none := x3.n D _ h2D F2D hι
        have n3 : D ∉ ι3 := x3.notin h2D hι
        cases b with
        | false =>
          rw [if_neg Bool.false_ne_true]
          exact ⟨F3, ι3, M2, acc, accv, ys, (x.trans x2).trans x3, rl3, h3D, F3D, n3, (ra.mono x2).mono x3, by omega, el0, hys⟩
        | true =>
          rw [if_pos rfl]
          dsimp only at el0
          refine ke ρ1 M2 F3 ι3 σ' H3 _ rl3 (er'.mono x3) ?_
          cases ee : el Γ ρ1 M2 with
          | stuck => rw [ee] at el0; cases el0
          | exc c fs M3 => rw [ee] at el0; cases el0
          | ok y M3 =>
            rw [ee] at el0
            dsimp only at el0
            intro F4 ι4 H4 w x4 rl4 rw4
            have h4D : H4 D = some (.lst accv) := x4.k D _ h3D n3
            have F4D : F4 D = none := x4.n D _ h3D F3D n3
            have n4 : D ∉ ι4 := x4.notin h3D n3
            cases er : lcL g ut el Γ (wipeD ρ vs) (ds.drop (i + 1)) M3 with
            | stuck => rw [er] at el0; cases el0
            | exc c fs M4 => rw [er] at el0; cases el0
            | ok zs M4 =>
              rw [er] at el0
              cases el0
              refine ⟨accv, h4D, ?_, F4, ι4, M3, acc ++ [y], accv ++ [w], zs, (((x.trans x2).trans x3).trans x4).poke hD, rl4.poke F4D n4, upd_same, F4D, n4, (((ra.mono x2).mono x3).mono x4).append (.cons rw4 .nil), ?_, er, ?_⟩
              · rw [← ra.len]
                exact Nat.lt_of_lt_of_le (Nat.lt_of_le_of_lt hl hlt) hz
              · rw [List.length_append, List.length_singleton]; omega
              · rw [List.append_assoc]; exact hys
  · have e : ds.drop i = [] := List.drop_eq_nil_iff.mpr (by omega)
    rw [e] at el0
    have st := it.stop i F ι M H up.1 up.2 rl (by omega)
    cases el0
    rw [List.append_nil] at hys
    subst hys
    refine .inl ⟨st, ?_⟩
    exact hfin F1 ι1 H1 F ι H _ D acc accv Q _ (.inr trivial) hD f1 x rl hacc hF hι ra h1
theorem fin_frz {K : PySem.W.Frag} {mg : Str → Option Value} {F1 : Hp} {ι1 : List Addr} {H1 F : Hp} {ι : List Addr} {H : Hp} {M : Mem} {D : Addr} {acc : List MP.D} {accv : List V} {Q : VK} {E : XK} (hD : H1 D = none) (f1 : F1 D = none) (x : Ext F1 ι1 H1 F ι H) (rl : Rel K mg F ι M H) (hacc : H D = some (.lst accv)) (hF : F D = none) (hι : D ∉ ι) (ra : RVs K mg F ι acc accv) (h1 : OkE K mg F1 ι1 H1 (.ok (.lst acc) M) Q E) : Q (.ref D) H :=
  h1 (upd F D (.lst accv)) ι H _ (x.own hD f1) (rl.own hF hι hacc) (.lst upd_same (ra.mono (H := fun _ => none) (H' := fun _ => none) ⟨fun a u e => by rw [upd_ne (ne_of_none e hF)]; exact e, ⟨[], by simp, by simp⟩, fun _ _ q _ => (by cases q), fun _ _ q _ _ => (by cases q), fun _ _ q => (by cases q)⟩))
theorem runLc {wi : TI} {si : AS} {g : GS} {ut : TSm} {el : ES} {gt : TG} {tt : TT} {te : TE} {vs : List Nat}
    (ki : ∀ ρ M F ι σ H R, Rel X.K X.mg F ι M H → ER X.K X.mg F ι ρ σ → OkG (ItOk X.K X.mg) X.K X.mg F ι H (si Γ ρ M) R (WE W σ) → wi σ H R)
    (kg : ∀ d v ρ ρ' M F ι σ H Q, Rel X.K X.mg F ι M H → ER X.K X.mg F ι ρ σ → RV X.K X.mg F ι d v → g M d ρ = some ρ' → (∀ σ', ER X.K X.mg F ι ρ' σ' → wipe σ' vs = wipe σ vs → Q σ' H) → gt v σ H Q)
    (kt : ∀ ρ M F ι σ H Q, Rel X.K X.mg F ι M H → ER X.K X.mg F ι ρ σ → OkT X.K X.mg F ι H (ut Γ ρ M) Q (fun _ _ _ => False) → tt σ H Q)
    (ke : ∀ ρ M F ι σ H Q, Rel X.K X.mg F ι M H → ER X.K X.mg F ι ρ σ → OkE X.K X.mg F ι H (el Γ ρ M) Q (fun _ _ _ => False) → te σ H Q) (hw : ∀ σ : St, wipe (wipe σ vs) vs = wipe σ vs) :
    ∀ ρ M F ι σ H Q, Rel X.K X.mg F ι M H → ER X.K X.mg F ι ρ σ → OkE X.K X.mg F ι H (eLc si g ut el vs Γ ρ M) Q (WE W σ) → tLc wi gt tt te vs σ H Q :=
  runLcG (fin := fun ys M2 => .ok (.lst ys) M2) ki kg kt ke hw fun F1 ι1 H1 F ι H M D acc accv Q E _ hD f1 x rl hacc hF hι ra h1 => fin_frz hD f1 x rl hacc hF hι ra h1
/-! a comprehension whose list will change -/
def eLcM (s : AS) (g : GS) (t : TSm) (el : ES) (vs : List Nat) : ES := fun Γ ρ M => (s Γ ρ M).bind fun ds M1 => if ds.length ≤ sizeLine then (match lcL g t el Γ (wipeD ρ vs) ds M1 with
  | .ok ys M2 => .ok (.ref M2.length) (M2 ++ [.lst ys])
  | _ => .stuck) else .stuck
theorem Rel.adopt {K : PySem.W.Frag} {mg : Str → Option Value} {F : Hp} {ι : List Addr} {H : Hp} {M : Mem} (r : Rel K mg F ι M H) {p : Addr} {o : HO} {mo : MO} (hf : F p = none) (hp : p ∉ ι) (ho : H p = some o) (q : RM K mg F (ι ++ [p]) mo o) : Rel K mg F (ι ++ [p]) (M ++ [mo]) H := by
  have x : Ext F ι (fun _ => none) F (ι ++ [p]) (fun _ => none) := ⟨fun _ _ e => e, ⟨[p], rfl, fun _ _ => rfl⟩, fun _ _ q _ => (by cases q), fun _ _ q _ _ => (by cases q), fun _ _ q => (by cases q)⟩
  refine ⟨r.sub, ?_, by simp [r.len], fun a ha => ?_, fun k mo' e => ?_⟩
  · rw [List.nodup_append]
    exact ⟨r.nd, by simp, fun a ha b hb => by rw [List.mem_singleton.mp hb]; exact fun z => hp (by rw [← z]; exact ha)⟩
  · rcases List.mem_append.mp ha with q | q
    · exact r.hs a q
    · rw [List.mem_singleton.mp q]; exact ⟨o, ho⟩
  · by_cases hk : k < M.length
    · rw [List.getElem?_append_left hk] at e
      obtain ⟨a, ha, hd | ⟨u, h1, h2, h3⟩⟩ := r.ob k mo' e
      · exact ⟨a, x.ix ha, .inl hd⟩
      · exact ⟨a, x.ix ha, .inr ⟨u, h1, h2, h3.mono x⟩⟩
    · have hk' : k = M.length := by
        have z := (List.getElem?_eq_some_iff.mp e).1
        rw [List.length_append, List.length_singleton] at z
        omega
      subst hk'
      rw [List.getElem?_append_right (Nat.le_refl _), Nat.sub_self] at e
      cases e
      exact ⟨p, by rw [← r.len, List.getElem?_append_right (Nat.le_refl _), Nat.sub_self]; rfl, .inr ⟨o, hf, ho, q⟩⟩
theorem Ext.adopt {F F' : Hp} {ι ι' : List Addr} {H H' : Hp} (x : Ext F ι H F' ι' H') {p : Addr} (h : H p = none) : Ext F ι H F' (ι' ++ [p]) H' := by
  obtain ⟨t, e, ht⟩ := x.i
  refine ⟨x.f, ⟨t ++ [p], by rw [e, List.append_assoc], fun a ha => ?_⟩, x.k, x.n, x.p⟩
  rcases List.mem_append.mp ha with q | q
  · exact ht a q
  · rw [List.mem_singleton.mp q]; exact h
theorem wipe_wipe (σ : St) : ∀ vs : List Nat, wipe (wipe σ vs) vs = wipe σ vs := by
  have key : ∀ (vs us : List Nat) (σ τ : St), σ.length = τ.length → (∀ i : Nat, i ∉ us → σ[i]? = τ[i]?) → (∀ i ∈ us, i ∈ vs) → wipe σ vs = wipe τ vs := by
    intro vs us σ τ hl h hs
    apply List.ext_getElem?
    intro i
    by_cases hi : i ∈ vs
    · have z : ∀ ρ : St, i < ρ.length → ∀ ws : List Nat, i ∈ ws → (wipe ρ ws)[i]? = some none := by
        intro ρ hr ws
        induction ws with
        | nil => intro q; cases q
        | cons w ws ih =>
          intro q
          unfold wipe
          by_cases e : w = i
          · subst e
            rw [List.getElem?_set_self (by rw [wipe_length]; exact hr)]
          · rw [List.getElem?_set_ne e]
            rcases List.mem_cons.mp q with r | r
            · exact absurd r.symm e
            · exact ih r
      by_cases hr : i < σ.length
      · rw [z σ hr vs hi, z τ (by rw [← hl]; exact hr) vs hi]
      · rw [List.getElem?_eq_none (by rw [wipe_length]; omega), List.getElem?_eq_none (by rw [wipe_length]; omega)]
    · rw [wipe_out hi, wipe_out hi]
      exact h i fun q => hi (hs i q)
  intro vs
  exact key vs vs (wipe σ vs) σ (wipe_length σ vs) (fun i hi => wipe_out hi) fun _ q => q
/-! canonical readings -/
def canE (K : PySem.W.Frag) (mg : Str → Option Value) (W : WX) (Γ : Calls) (s : ES) : TE := fun σ H Q => ∃ ρ M F ι, Rel K mg F ι M H ∧ ER K mg F ι ρ σ ∧ OkE K mg F ι H (s Γ ρ M) Q (WE W σ)
def canT (K : PySem.W.Frag) (mg : Str → Option Value) (W : WX) (Γ : Calls) (s : TSm) : TT := fun σ H Q => ∃ ρ M F ι, Rel K mg F ι M H ∧ ER K mg F ι ρ σ ∧ OkT K mg F ι H (s Γ ρ M) Q (WE W σ)
def canG (K : PySem.W.Frag) (mg : Str → Option Value) (vs : List Nat) (g : GS) : TG := fun v σ H Q => ∃ d ρ ρ' M F ι, Rel K mg F ι M H ∧ ER K mg F ι ρ σ ∧ RV K mg F ι d v ∧ g M d ρ = some ρ' ∧ ∀ σ', ER K mg F ι ρ' σ' → Keep vs σ σ' → Q σ' H
theorem SE.can {e : Expr} {s : ES} (h : SE X W Γ e s) : PE X e (canE X.K X.mg W Γ s) := by
  obtain ⟨t, p, k⟩ := h
  exact ⟨fun pins s σ H Q I ⟨ρ, M, F, ι, rl, er, h⟩ => p.run pins s σ H Q I (k ρ M F ι σ H Q rl er h)⟩
theorem STs.can {e : List Expr} {s : TSm} (h : STs X W Γ e s) : PTs X e (canT X.K X.mg W Γ s) := by
  obtain ⟨t, p, k⟩ := h
  exact ⟨fun pins s σ H Q I ⟨ρ, M, F, ι, rl, er, h⟩ => p.run pins s σ H Q I (k ρ M F ι σ H Q rl er h)⟩
theorem SG.can {vs : List Nat} {tg : Expr} {g : GS} (h : SG X vs tg g) : PG X tg (canG X.K X.mg vs g) := by
  obtain ⟨t, p, k⟩ := h
  exact ⟨fun pins s σ H v u Q I r ⟨d, ρ, ρ', M, F, ι, rl, er, rv, e, h⟩ => p.run pins s σ H v u Q I r (k d v ρ ρ' M F ι σ H Q rl er rv e h)⟩
theorem wipe_keep (vs : List Nat) (σ τ : St) (h : Keep vs τ σ) : wipe σ vs = wipe τ vs := by
  apply List.ext_getElem?
  intro i
  by_cases hi : i ∈ vs
  · have z : ∀ ρ : St, i < ρ.length → ∀ ws : List Nat, i ∈ ws → (wipe ρ ws)[i]? = some none := by
      intro ρ hr ws
      induction ws with
      | nil => intro q; cases q
      | cons w ws ih =>
        intro q
        unfold wipe
        by_cases e : w = i
        · subst e
          rw [List.getElem?_set_self (by rw [wipe_length]; exact hr)]
        · rw [List.getElem?_set_ne e]
          rcases List.mem_cons.mp q with r | r
          · exact absurd r.symm e
          · exact ih r
    by_cases hr : i < σ.length
    · rw [z σ hr vs hi, z τ (by rw [← h.1]; exact hr) vs hi]
    · rw [List.getElem?_eq_none (by rw [wipe_length]; omega), List.getElem?_eq_none (by rw [wipe_length, ← h.1]; omega)]
  · rw [wipe_out hi, wipe_out hi]
    exact h.2 i hi
abbrev W0 : WX := fun _ _ _ _ => False
theorem blk_of {scope : Scope} {tg elt : Expr} {ifs : List Expr} {g : GS} {ut : TSm} {el : ES} {vs : List Nat} (hg : ∀ (s : Shared) (H : Hp) (C : Addr) (cl : List (Str × Addr)) (fp : List Addr), SG (X.blk s H scope (compEnvC scope cl C X.env) fp) vs tg g)
    (ht : ∀ (s : Shared) (H : Hp) (C : Addr) (cl : List (Str × Addr)) (fp : List Addr), STs (X.blk s H scope (compEnvC scope cl C X.env) fp) W0 Γ ifs ut) (he : ∀ (s : Shared) (H : Hp) (C : Addr) (cl : List (Str × Addr)) (fp : List Addr), SE (X.blk s H scope (compEnvC scope cl C X.env) fp) W0 Γ elt el) :
    Blk X Γ scope tg elt ifs g ut el vs := by
  refine ⟨canG X.K X.mg vs g, canT X.K X.mg W0 Γ ut, canE X.K X.mg W0 Γ el, fun s H C cl fp => (hg s H C cl fp).can, fun s H C cl fp => (ht s H C cl fp).can, fun s H C cl fp => (he s H C cl fp).can, ?_, ?_, ?_⟩
  · exact fun d v ρ ρ' M F ι σ H Q rl er rv e k => ⟨d, ρ, ρ', M, F, ι, rl, er, rv, e, fun σ' er' hk => k σ' er' (wipe_keep vs σ' σ hk)⟩
  · exact fun ρ M F ι σ H Q rl er h => ⟨ρ, M, F, ι, rl, er, h⟩
  · exact fun ρ M F ι σ H Q rl er h => ⟨ρ, M, F, ι, rl, er, h⟩
theorem se_lc {elt tg iter : Expr} {ifs : List Expr} {scope : Scope} {own : List (Str × Nat)} {si : AS} {g : GS} {ut : TSm} {el : ES} (hc : X.calm = true) (hN : X.N.Nodup) (hi : SI X W Γ tg iter si) (ok : BlkOk X.N X.env.scope scope own)
    (hb : Blk X Γ scope tg elt ifs g ut el (own.map (·.2))) (hs : ∀ x, foldedSetIterable iter X.env x = pure x := by intro _; rfl) : SE X W Γ (.ListComp elt [⟨tg, iter, ifs, 0⟩] scope pos) (eLc si g ut el (own.map (·.2))) := by
  obtain ⟨wi, pi, ki⟩ := hi
  obtain ⟨gt, tt, te, p1, p2, p3, k1, k2, k3⟩ := hb.parts
  exact ⟨_, pe_lc hc hN pi ok p1 p2 p3 hs, runLc ki k1 k2 k3 fun σ => wipe_wipe σ _⟩
theorem runLcM {wi : TI} {si : AS} {g : GS} {ut : TSm} {el : ES} {gt : TG} {tt : TT} {te : TE} {vs : List Nat}
    (ki : ∀ ρ M F ι σ H R, Rel X.K X.mg F ι M H → ER X.K X.mg F ι ρ σ → OkG (ItOk X.K X.mg) X.K X.mg F ι H (si Γ ρ M) R (WE W σ) → wi σ H R)
    (kg : ∀ d v ρ ρ' M F ι σ H Q, Rel X.K X.mg F ι M H → ER X.K X.mg F ι ρ σ → RV X.K X.mg F ι d v → g M d ρ = some ρ' → (∀ σ', ER X.K X.mg F ι ρ' σ' → wipe σ' vs = wipe σ vs → Q σ' H) → gt v σ H Q)
    (kt : ∀ ρ M F ι σ H Q, Rel X.K X.mg F ι M H → ER X.K X.mg F ι ρ σ → OkT X.K X.mg F ι H (ut Γ ρ M) Q (fun _ _ _ => False) → tt σ H Q)
    (ke : ∀ ρ M F ι σ H Q, Rel X.K X.mg F ι M H → ER X.K X.mg F ι ρ σ → OkE X.K X.mg F ι H (el Γ ρ M) Q (fun _ _ _ => False) → te σ H Q) (hw : ∀ σ : St, wipe (wipe σ vs) vs = wipe σ vs) :
    ∀ ρ M F ι σ H Q, Rel X.K X.mg F ι M H → ER X.K X.mg F ι ρ σ → OkE X.K X.mg F ι H (eLcM si g ut el vs Γ ρ M) Q (WE W σ) → tLc wi gt tt te vs σ H Q :=
  runLcG (fin := fun ys M2 => .ok (.ref M2.length) (M2 ++ [.lst ys])) ki kg kt ke hw fun F1 ι1 H1 F ι H M D acc accv Q E _ hD f1 x rl hacc hF hι ra h1 =>
    h1 F (ι ++ [D]) H _ (x.adopt hD) (rl.adopt hF hι hacc (ra.mono (F := F) (F' := F) (ι := ι) (ι' := ι ++ [D]) (H := fun _ => none) (H' := fun _ => none) ⟨fun _ _ e => e, ⟨[D], rfl, fun _ _ => rfl⟩, fun _ _ q _ => (by cases q), fun _ _ q _ _ => (by cases q), fun _ _ q => (by cases q)⟩))
      (.ref (by rw [← rl.len, List.getElem?_append_right (Nat.le_refl _), Nat.sub_self]; rfl))
theorem ss_setLcM {i : Nat} {y : Str} {py spos : Pos} {elt tg iter : Expr} {ifs : List Expr} {scope : Scope} {own : List (Str × Nat)} {si : AS} {g : GS} {ut : TSm} {el : ES} (hc : X.calm = true) (hN : X.N.Nodup) (hi : SI X W Γ tg iter si) (ok : BlkOk X.N X.env.scope scope own)
    (hb : Blk X Γ scope tg elt ifs g ut el (own.map (·.2))) (hsw : swapsWith (.ListComp elt [⟨tg, iter, ifs, 0⟩] scope pos) (some (.Name y py)) spos.line X.env = pure true)
    (hy : X.N[i]? = some y := by rfl) (hyl : X.env.scope.names.lookup y = some .local := by rfl) (hs : ∀ x, foldedSetIterable iter X.env x = pure x := by intro _; rfl) :
    SSt X W Γ (.Assign [.Name y py] (.ListComp elt [⟨tg, iter, ifs, 0⟩] scope pos) spos) (sAsg (eLcM si g ut el (own.map (·.2))) (gN i)) := by
  obtain ⟨wi, pi, ki⟩ := hi
  obtain ⟨gt, tt, te, p1, p2, p3, k1, k2, k3⟩ := hb.parts
  refine ⟨_, ps_setLc hc hN hy hyl hsw pi ok p1 p2 p3 hs, runAsg (ws := [i]) (runLcM ki k1 k2 k3 fun σ => wipe_wipe σ _) fun d v ρ ρ' M F ι σ H Q rl er rv e k => ?_⟩
  cases e
  exact k _ (er.set i rv) (.set (List.mem_singleton.mpr rfl) _)
theorem ss_setLc {i : Nat} {y : Str} {py spos : Pos} {elt tg iter : Expr} {ifs : List Expr} {scope : Scope} {own : List (Str × Nat)} {si : AS} {g : GS} {ut : TSm} {el : ES} (hc : X.calm = true) (hN : X.N.Nodup) (hi : SI X W Γ tg iter si) (ok : BlkOk X.N X.env.scope scope own)
    (hb : Blk X Γ scope tg elt ifs g ut el (own.map (·.2))) (hsw : swapsWith (.ListComp elt [⟨tg, iter, ifs, 0⟩] scope pos) (some (.Name y py)) spos.line X.env = pure true)
    (hy : X.N[i]? = some y := by rfl) (hyl : X.env.scope.names.lookup y = some .local := by rfl) (hs : ∀ x, foldedSetIterable iter X.env x = pure x := by intro _; rfl) :
    SSt X W Γ (.Assign [.Name y py] (.ListComp elt [⟨tg, iter, ifs, 0⟩] scope pos) spos) (sAsg (eLc si g ut el (own.map (·.2))) (gN i)) := by
  obtain ⟨wi, pi, ki⟩ := hi
  obtain ⟨gt, tt, te, p1, p2, p3, k1, k2, k3⟩ := hb.parts
  refine ⟨_, ps_setLc hc hN hy hyl hsw pi ok p1 p2 p3 hs, runAsg (ws := [i]) (runLc ki k1 k2 k3 fun σ => wipe_wipe σ _) fun d v ρ ρ' M F ι σ H Q rl er rv e k => ?_⟩
  cases e
  exact k _ (er.set i rv) (.set (List.mem_singleton.mpr rfl) _)
end
end MP
set_option maxRecDepth 100000
set_option maxHeartbeats 4000000
namespace MP
open PySem L2

def spI (K : PySem.W.Frag) (mg : Str → Option Value) (g : List D → Mem → R D) (n : Nat) : Sp := fun vs H Q E => vs.length = n ∧ ∃ F ι M ds, Rel K mg F ι M H ∧ RVs K mg F ι ds vs ∧ OkE K mg F ι H (g ds M) Q E
/-- the def at f does what g says, k deep at most -/
structure Fn (P : Program) (w : World) (K : PySem.W.Frag) (mg : Str → Option Value) (base : Heap) (k : Nat) (f : Addr) (n : Nat) (g : List D → Mem → R D) : Prop where
  ex : ∃ fd ps, FnOk P w K mg base (L2.CX P w) k f fd ps (spI K mg g n) ∧ Binds K fd ps [] ∧ ps.length = n
  kp : PySem.W.keepIn K (.ref f) = true
  fn : PySem.W.isFn K (.ref f) = true
section
variable {X : Cx} {W : WX} {Γ : Calls} {e a b : Expr} {se sa sb : ES} {pos p : Pos} {pins : List (Addr × Obj)} {σ : St} {H : Hp} {s : Shared}
abbrev FnX (X : Cx) (k : Nat) (f : Addr) (n : Nat) (g : List D → Mem → R D) := Fn X.prog X.w X.K X.mg X.base k f n g
theorem runF {k n : Nat} {f : Addr} {g : List D → Mem → R D} {A' : Around} {F : Hp} {ι : List Addr} {M : Mem} {ds : List D} {vs : List V} {us : List Value} {Q : VK} (G : FnX X k f n g) (hr : Room k A') (hA : A'.frames = X.A.frames) (tk : Takes X W) (I : Inv X pins σ H s)
    (rl : Rel X.K X.mg F ι M H) (rv : RVs X.K X.mg F ι ds vs) (hn : ds.length = n) (r : Vals vs us) (h : OkE X.K X.mg F ι H (g ds M) Q (WE W σ)) : wpAny (model X.prog X.w) A' (call (.ref f) us) (EP X pins σ Q) X.xe s := by
  obtain ⟨fd, ps, G, hb, hps⟩ := G.ex
  have hl : us.length = ps.length := by rw [hps, ← hn, rv.len, r.length]
  have bb := hb s us I.kIn (by rw [List.append_nil]; exact hl)
  rw [List.append_nil] at bb
  have e := I.env0
  have e0 : Env0 X.prog X.w X.K X.mg X.base A' X.stack s H := ⟨by rw [hA]; exact e.frames, e.mod, e.bs, e.bsz, e.funs, e.frf, e.hok, e.bare⟩
  refine wpAny_call (codeAny_mono (G.run A' X.stack s H ⟨us, []⟩ us vs Q (WE W σ) hr e0 bb r ⟨by rw [← rv.len]; exact hn, F, ι, M, ds, rl, rv, h⟩) fun z s' hq => ?_)
  cases z with
  | error x => exact passAt tk σ pins H s x s' I hq
  | ok fl =>
    cases fl with
    | ret u => exact I.after hq
    | next => exact False.elim hq
    | brk => exact False.elim hq
    | cont => exact False.elim hq
/-! ### f(..) -/
def eCall (q : Nat) (a : AS) : ES := fun Γ ρ M => (a Γ ρ M).bind fun ds M1 => Γ q ds M1
def AN (n : Nat) (sr : AS) : Prop := ∀ Γ ρ M ds M1, sr Γ ρ M = .ok ds M1 → ds.length = n
theorem an_nil : AN 0 aNil := fun _ _ _ _ _ h => by cases h; rfl
theorem an_cons {n : Nat} {s : ES} {r : AS} (h : AN n r) : AN (n + 1) (aCons s r) := fun Γ ρ M ds M1 e => by
  unfold aCons at e
  cases e1 : s Γ ρ M with
  | ok x M2 =>
    rw [e1] at e
    cases e2 : r Γ ρ M2 with
    | ok xs M3 =>
      simp only [R.bind, e2] at e
      cases e
      rw [List.length_cons, h Γ ρ M2 _ _ e2]
    | exc c fs M3 => simp only [R.bind, e2] at e; cases e
    | stuck => simp only [R.bind, e2] at e; cases e
  | exc c fs M2 => rw [e1] at e; cases e
  | stuck => rw [e1] at e; cases e
def PA.any (X : Cx) (es : List Expr) : Prop := ∃ t, PA X es t
/-- n arguments: how many a list of data has when it is evaluated -/
theorem se_call {x : Str} {q : Nat} {es : List Expr} {sr : AS} {k n : Nat} {f : Addr} (G : FnX X k f n (Γ q)) (hm : X.mg x = some (.ref f)) (hr : Room k X.A) (tk : Takes X W) (ha : SA X W Γ (a :: es) sr) (hn : AN n sr)
    (hg : Gl X x := by rfl) (hdb : (x == ("__debug__" : Str)) = false := by decide) (he : starEach (a :: es) X.env = (false, eval a X.env) :: starEach es X.env := by rfl) (hpl : (backTo pos (starEach es X.env)).any (·.1) = false := by rfl) :
    SE X W Γ (.Call (.Name x p) (a :: es) [] pos) (eCall q sr) := by
  obtain ⟨t, pt, kt⟩ := ha
  refine ⟨fun σ H Q => t σ H fun vs H1 => vs.length = n ∧ ∃ F ι M ds, Rel X.K X.mg F ι M H1 ∧ RVs X.K X.mg F ι ds vs ∧ OkE X.K X.mg F ι H1 (Γ q ds M) Q (WE W σ), ⟨fun pins s σ H Q I h => ?_⟩, fun ρ M F ι σ H Q rl er h => ?_⟩
  · refine wpAny_Call_Name_kw (ld_glob I hg hm ?_ hdb)
    refine PySem.W.callWith_K (h₀ := X.base) I.ok.mod.kin G.kp (thn (pt.run pos pins s σ H _ I h) fun us s1 hh => ?_) he hpl
    obtain ⟨vs, H1, I1, r, hv, F, ι, M, ds, rl, rv, hq⟩ := hh
    exact ⟨I1.kIn, runF G hr rfl tk I1 rl rv (by rw [rv.len]; exact hv) r hq⟩
  · unfold eCall at h
    cases e : sr Γ ρ M with
    | stuck => rw [e] at h; exact h.elim
    | exc c fs M1 => exact kt ρ M F ι σ H _ rl er (by rw [e] at h ⊢; exact h)
    | ok ds M1 =>
      refine kt ρ M F ι σ H _ rl er ?_
      rw [e] at h ⊢
      exact fun F1 ι1 H1 vs x1 rl1 rv1 => ⟨by rw [← rv1.len]; exact hn Γ ρ M ds M1 e, F1, ι1, M1, ds, rl1, rv1, OkG.step x1 h⟩
/-- f(..) with the last parameters by their defaults -/
structure FnD (P : Program) (w : World) (K : PySem.W.Frag) (mg : Str → Option Value) (base : Heap) (k : Nat) (f : Addr) (n : Nat) (dv : List D) (g : List D → Mem → R D) : Prop where
  ex : ∃ fd ps dvs dsv, FnOk P w K mg base (L2.CX P w) k f fd ps (spI K mg g (n + dv.length)) ∧ Binds K fd ps dsv ∧ Vals dvs dsv ∧ (∀ F ι, RVs K mg F ι dv dvs) ∧ ps.length = n + dv.length
  kp : PySem.W.keepIn K (.ref f) = true
def eCallD (q : Nat) (dv : List D) (a : AS) : ES := fun Γ ρ M => (a Γ ρ M).bind fun ds M1 => Γ q (ds ++ dv) M1
theorem se_callD {x : Str} {q : Nat} {dv : List D} {es : List Expr} {sr : AS} {k n : Nat} {f : Addr} (G : FnD X.prog X.w X.K X.mg X.base k f n dv (Γ q)) (hm : X.mg x = some (.ref f)) (hr : Room k X.A) (tk : Takes X W) (ha : SA X W Γ (a :: es) sr) (hn : AN n sr)
    (hg : Gl X x := by rfl) (hdb : (x == ("__debug__" : Str)) = false := by decide) (he : starEach (a :: es) X.env = (false, eval a X.env) :: starEach es X.env := by rfl) (hpl : (backTo pos (starEach es X.env)).any (·.1) = false := by rfl) :
    SE X W Γ (.Call (.Name x p) (a :: es) [] pos) (eCallD q dv sr) := by
  obtain ⟨t, pt, kt⟩ := ha
  obtain ⟨fd, ps, dvs, dsv, Gf, hb, hd, hrd, hps⟩ := G.ex
  refine ⟨fun σ H Q => t σ H fun vs H1 => vs.length = n ∧ ∃ F ι M ds, Rel X.K X.mg F ι M H1 ∧ RVs X.K X.mg F ι ds vs ∧ OkE X.K X.mg F ι H1 (Γ q (ds ++ dv) M) Q (WE W σ), ⟨fun pins s σ H Q I h => ?_⟩, fun ρ M F ι σ H Q rl er h => ?_⟩
  · refine wpAny_Call_Name_kw (ld_glob I hg hm ?_ hdb)
    refine PySem.W.callWith_K (h₀ := X.base) I.ok.mod.kin G.kp (thn (pt.run pos pins s σ H _ I h) fun us s1 hh => ?_) he hpl
    obtain ⟨vs, H1, I1, r, hv, F, ι, M, ds, rl, rv, hq⟩ := hh
    refine ⟨I1.kIn, ?_⟩
    have rr : RVs X.K X.mg F ι (ds ++ dv) (vs ++ dvs) := rv.append (hrd F ι)
    exact run_fnSD (E := WE W) Gf hr hb hd (passAt tk σ) I1 r ⟨by rw [← rr.len, List.length_append, rv.len, hv], F, ι, M, ds ++ dv, rl, rr, hq⟩
  · unfold eCallD at h
    cases e : sr Γ ρ M with
    | stuck => rw [e] at h; exact h.elim
    | exc c fs M1 => exact kt ρ M F ι σ H _ rl er (by rw [e] at h ⊢; exact h)
    | ok ds M1 =>
      refine kt ρ M F ι σ H _ rl er ?_
      rw [e] at h ⊢
      exact fun F1 ι1 H1 vs x1 rl1 rv1 => ⟨by rw [← rv1.len]; exact hn Γ ρ M ds M1 e, F1, ι1, M1, ds, rl1, rv1, OkG.step x1 h⟩
/-- f() -/
theorem se_call0 {x : Str} {q : Nat} {k : Nat} {f : Addr} (G : FnX X k f 0 (Γ q)) (hm : X.mg x = some (.ref f)) (hr : Room k X.A) (tk : Takes X W) (hg : Gl X x := by rfl) (hdb : (x == ("__debug__" : Str)) = false := by decide) :
    SE X W Γ (.Call (.Name x p) [] [] pos) (eCall q aNil) := by
  refine ⟨fun σ H Q => ∃ F ι M, Rel X.K X.mg F ι M H ∧ OkE X.K X.mg F ι H (Γ q [] M) Q (WE W σ), ⟨fun pins s σ H Q I h => ?_⟩, fun ρ M F ι σ H Q rl er h => ⟨F, ι, M, rl, h⟩⟩
  obtain ⟨F, ι, M, rl, hq⟩ := h
  refine wpAny_Call_Name_kw (ld_glob I hg hm ?_ hdb)
  exact PySem.W.callWith_K0 I.kIn G.kp (runF (us := []) G hr rfl tk I rl .nil rfl .nil hq)

/-! ### instances -/
/-- the class and the fields of what is an instance -/
def insOf (M : Mem) : D → Option (Str × List (Str × D))
  | .obj c fs => some (c, fs)
  | .ref k => match M[k]? with
    | some (.ins c fs) => some (c, fs)
    | _ => none
  | _ => none
theorem insOf_at {K : PySem.W.Frag} {mg : Str → Option Value} {F : Hp} {ι : List Addr} {H : Hp} {M : Mem} {d : D} {v : V} {c : Str} {fs : List (Str × D)} (rl : Rel K mg F ι M H) (r : RV K mg F ι d v) (h : insOf M d = some (c, fs)) :
    ∃ p C dx gs, v = .ref p ∧ H p = some (.ins C dx gs) ∧ mg c = some (.ref C) ∧ RVf K mg F ι fs gs := by
  cases r with
  | obj hf hc hs => cases h; exact ⟨_, _, _, _, rfl, rl.sub _ _ hf, hc, hs⟩
  | ref hk =>
    unfold insOf at h
    dsimp only at h
    split at h
    · rename_i c' fs' e
      cases h
      obtain ⟨a, o, ha, hf, ho, rm⟩ := rl.at e (by intro z; cases z)
      rw [hk] at ha; cases ha
      cases o <;> simp only [RM] at rm
      exact ⟨_, _, _, _, rfl, ho, rm.1, rm.2⟩
    · cases h
  | _ => cases h
def lookD (f : Str) : List (Str × D) → Option D
  | [] => none
  | (g, d) :: r => if f = g then some d else lookD f r
theorem lookup_cons_if (f g : Str) (v : V) (r : List (Str × V)) : ((g, v) :: r).lookup f = if f = g then some v else r.lookup f := by
  by_cases h : f = g
  · subst h; simp [List.lookup]
  · have e : (f == g) = false := by simpa using h
    rw [if_neg h]; simp [List.lookup, e]
theorem RVf.look {K : PySem.W.Frag} {mg : Str → Option Value} {F : Hp} {ι : List Addr} (f : Str) : ∀ {fs : List (Str × D)} {gs : List (Str × V)}, RVf K mg F ι fs gs → (∀ d, lookD f fs = some d → ∃ v, gs.lookup f = some v ∧ RV K mg F ι d v) ∧ (lookD f fs = none → gs.lookup f = none)
  | _, _, .nil => ⟨fun d h => (by cases h), fun _ => rfl⟩
  | _, _, .cons (f := g) (d := d0) (v := v0) (ds := ds) (vs := vs) r t => by
    have ih := RVf.look f t
    rw [lookup_cons_if]
    show (∀ d, (if f = g then some d0 else lookD f ds) = some d → _) ∧ ((if f = g then some d0 else lookD f ds) = none → _)
    by_cases h : f = g
    · rw [if_pos h, if_pos h]
      exact ⟨fun d e => by cases e; exact ⟨v0, rfl, r⟩, fun e => by cases e⟩
    · rw [if_neg h, if_neg h]
      exact ih
/-- classes whose field f is a plain one -/
def FldOk (K : PySem.W.Frag) (mg : Str → Option Value) (cs : List Str) (f : Str) : Prop := ∀ c ∈ cs, ∀ C, mg c = some (.ref C) → Cls K C ∧ NoAttr K C f
def dFld (cs : List Str) (f : Str) (M : Mem) (d : D) : Option D := (insOf M d).bind fun p => if p.1 ∈ cs then lookD f p.2 else none
def eFld (cs : List Str) (f : Str) (a : ES) : ES := fun Γ ρ M => (a Γ ρ M).bind fun x M1 => R.opt (dFld cs f M1 x) M1
theorem se_fld {cs : List Str} {f : Str} (hf : FldOk X.K X.mg cs f) (h : SE X W Γ e se) (hb : attributeBase e f X.env (eval e X.env) = eval e X.env := by rfl) : SE X W Γ (.Attribute e f pos) (eFld cs f se) := by
  obtain ⟨t, q, k⟩ := h
  refine ⟨_, pe_fld q hb, fun ρ M F ι σ H Q rl er h => ?_⟩
  refine k ρ M F ι σ H _ rl er (OkG.bind h |>.imp fun v H1 hv => ?_)
  obtain ⟨d, M1, F1, ι1, x1, rl1, rv1, h1⟩ := hv
  obtain ⟨z, hz, kk⟩ := okopt h1
  unfold dFld at hz
  rw [Option.bind_eq_some_iff] at hz
  obtain ⟨⟨c, fs⟩, h2, h3⟩ := hz
  dsimp only at h3
  split at h3
  · rename_i hc
    obtain ⟨p, C, dx, gs, rfl, hp, hm, rf⟩ := insOf_at rl1 rv1 h2
    obtain ⟨w, hw, rw'⟩ := (rf.look f).1 z h3
    obtain ⟨c1, c2⟩ := hf c hc C hm
    exact ⟨p, C, dx, gs, w, rfl, hp, c1, c2, hw, q_fin kk rl1 rw'⟩
  · cases h3
/-- o.f = e, o a changing object -/
def putD (f : Str) (d : D) : List (Str × D) → List (Str × D)
  | [] => [(f, d)]
  | (g, e) :: r => if g = f then (g, d) :: r else (g, e) :: putD f d r
theorem RVf.put {K : PySem.W.Frag} {mg : Str → Option Value} {F : Hp} {ι : List Addr} {f : Str} {d : D} {v : V} (h : RV K mg F ι d v) : ∀ {fs : List (Str × D)} {gs : List (Str × V)}, RVf K mg F ι fs gs → RVf K mg F ι (putD f d fs) (putF f v gs)
  | _, _, .nil => .cons h .nil
  | _, _, .cons (f := g) (d := d0) (v := v0) (ds := ds) (vs := vs) r t => by
    show RVf K mg F ι (if g = f then (g, d) :: ds else (g, d0) :: putD f d ds) (if g = f then (g, v) :: vs else (g, v0) :: putF f v vs)
    by_cases q : g = f
    · rw [if_pos q, if_pos q]; exact .cons h t
    · rw [if_neg q, if_neg q]; exact .cons r (RVf.put h t)
theorem RVf.len {K : PySem.W.Frag} {mg : Str → Option Value} {F : Hp} {ι : List Addr} : ∀ {fs : List (Str × D)} {gs : List (Str × V)}, RVf K mg F ι fs gs → fs.length = gs.length
  | _, _, .nil => rfl
  | _, _, .cons _ t => by rw [List.length_cons, List.length_cons, RVf.len t]
def sFldD (cs : List Str) (f : Str) (o v : ES) : SS := fun Γ ρ M => (v Γ ρ M).toS ρ fun y M1 => (o Γ ρ M1).toS ρ fun x M2 => match x with
  | .ref k => match M2[k]? with
    | some (.ins c fs) => if c ∈ cs ∧ fs.length < 1000 then .next ρ (M2.set k (.ins c (putD f y fs))) else .stuck
    | _ => .stuck
  | _ => .stuck
theorem ss_fld {cs : List Str} {f : Str} {o v : Expr} {so sv : ES} {pos' : Pos} (hf : FldOk X.K X.mg cs f) (ho : SE X W Γ o so) (hv : SE X W Γ v sv) (hs : swapsWith v (some (.Attribute o f pos')) pos.line X.env = pure false := by rfl) :
    SSt X W Γ (.Assign [.Attribute o f pos'] v pos) (sFldD cs f so sv) := by
  obtain ⟨t, q, k⟩ := ho
  obtain ⟨t', q', k'⟩ := hv
  refine ⟨_, ps_fld q q' hs, fun ρ M F ι σ H D rl er h => ?_⟩
  refine k' ρ M F ι σ H _ rl er ((OkS.bind er h).imp fun y H1 hy => ?_)
  obtain ⟨d, M1, F1, ι1, x1, rl1, rv1, h1⟩ := hy
  refine k ρ M1 F1 ι1 σ H1 _ rl1 (er.mono x1) ((OkS.bind (er.mono x1) h1).imp fun x H2 hx => ?_)
  obtain ⟨od, M2, F2, ι2, x2, rl2, rv2, h2⟩ := hx
  cases rv2 with
  | ref hk =>
    dsimp only at h2
    split at h2
    · rename_i c fs e
      split at h2
      · rename_i hc
        obtain ⟨a, ob, ha, hfn, hob, rm⟩ := rl2.at e (by intro z; cases z)
        rw [hk] at ha; cases ha
        cases ob <;> simp only [RM] at rm
        obtain ⟨hm, rf⟩ := rm
        obtain ⟨c1, c2⟩ := hf c hc.1 _ hm
        refine ⟨_, _, _, _, rfl, hob, c1, c2, by rw [← rf.len]; exact hc.2, ?_⟩
        exact h2 F2 ι2 _ σ (Ext.set hk) (rl2.set e (by intro z; cases z) hk ⟨hm, rf.put (rv1.mono x2)⟩) (((er.mono x1).mono x2))
      · exact h2.elim
    · exact h2.elim
  | _ => exact h2.elim
/-- C(..) by its __init__ -/
def eMake (c : Str) (i : Nat) (frz : Bool) (a : AS) : ES := fun Γ ρ M => (a Γ ρ M).bind fun ds M1 => (Γ i (.ref M1.length :: ds) (M1 ++ [.ins c []])).bind fun v M2 => match v with
  | .non => if frz then (match M2[M1.length]? with
    | some (.ins c' fs) => .ok (.obj c' fs) (M2.set M1.length .dead)
    | _ => .stuck) else .ok (.ref M1.length) M2
  | _ => .stuck
theorem runMake {x : Str} {i : Nat} {frz : Bool} {k n : Nat} {f C : Addr} {F : Hp} {ι : List Addr} {M : Mem} {ds : List D} {vs : List V} {us : List Value} {Q : VK} (G : FnX X k f (n + 1) (Γ i)) (Mk : Mk X.K C f) (hm : X.mg x = some (.ref C)) (hr : Room (k + 1) X.A) (tk : Takes X W) (I : Inv X pins σ H s)
    (rl : Rel X.K X.mg F ι M H) (rv : RVs X.K X.mg F ι ds vs) (hn : ds.length = n) (r : Vals vs us) (h : OkE X.K X.mg F ι H ((Γ i (.ref M.length :: ds) (M ++ [.ins x []])).bind fun v M2 => match v with
      | .non => if frz then (match M2[M.length]? with
        | some (.ins c' fs) => .ok (.obj c' fs) (M2.set M.length .dead)
        | _ => .stuck) else .ok (.ref M.length) M2
      | _ => .stuck) Q (WE W σ)) : wpAny (model X.prog X.w) X.A (call (.ref C) us) (EP X pins σ Q) X.xe s := by
  obtain ⟨fd, ps, G, hb, hps⟩ := G.ex
  have hx : H (s.heap.objs.size + 1) = none := I.hok.fresh (Nat.le_succ _)
  have hdx : H s.heap.objs.size = none := I.hok.fresh (Nat.le_refl _)
  have hne : s.heap.objs.size + 1 ≠ s.heap.objs.size := Nat.succ_ne_self _
  have hx1 : upd H s.heap.objs.size (.own (s.heap.objs.size + 1)) (s.heap.objs.size + 1) = none := by rw [upd_ne hne]; exact hx
  have I2 := Inv.made (C := C) I
  have x1 : Ext F ι H F ι (upd H s.heap.objs.size (.own (s.heap.objs.size + 1))) := Ext.junk hdx
  have x2 : Ext F ι (upd H s.heap.objs.size (.own (s.heap.objs.size + 1))) F (ι ++ [s.heap.objs.size + 1]) (upd (upd H s.heap.objs.size (.own (s.heap.objs.size + 1))) (s.heap.objs.size + 1) (.ins C s.heap.objs.size [])) := Ext.alloc hx1
  have rl2 : Rel X.K X.mg F (ι ++ [s.heap.objs.size + 1]) (M ++ [.ins x []]) (upd (upd H s.heap.objs.size (.own (s.heap.objs.size + 1))) (s.heap.objs.size + 1) (.ins C s.heap.objs.size [])) := (rl.junk hdx).alloc hx1 ⟨hm, .nil⟩
  have hix : (ι ++ [s.heap.objs.size + 1])[M.length]? = some (s.heap.objs.size + 1) := by rw [← rl.len, List.getElem?_append_right (Nat.le_refl _), Nat.sub_self]; rfl
  have x3 := x1.trans x2
  have rv2 : RVs X.K X.mg F (ι ++ [s.heap.objs.size + 1]) (.ref M.length :: ds) (.ref (s.heap.objs.size + 1) :: vs) := .cons (.ref hix) (rv.mono x3)
  have r2 : Vals (V.ref (s.heap.objs.size + 1) :: vs) (Value.ref (s.heap.objs.size + 1) :: us) := .cons rfl r
  have hl : (Value.ref (s.heap.objs.size + 1) :: us).length = ps.length := by rw [hps, ← r2.length, List.length_cons, ← rv.len, hn]
  have hsp : spI X.K X.mg (Γ i) (n + 1) (V.ref (s.heap.objs.size + 1) :: vs) (upd (upd H s.heap.objs.size (.own (s.heap.objs.size + 1))) (s.heap.objs.size + 1) (.ins C s.heap.objs.size [])) (fun v H2 => v = .non ∧ Q (.ref (s.heap.objs.size + 1)) H2) (WE W σ) := by
    refine ⟨by rw [List.length_cons, ← rv.len, hn], F, _, _, _, rl2, rv2, (OkG.bind (OkG.step x3 h)).imp fun v H3 hv => ?_⟩
    obtain ⟨d, M3, F3, ι3, x4, rl3, rv3, h3⟩ := hv
    cases rv3 with
    | non =>
      refine ⟨rfl, ?_⟩
      have hix3 := x4.ix hix
      dsimp only at h3
      cases frz with
      | false => exact h3.ok rl3 (.ref hix3)
      | true =>
        rw [if_pos rfl] at h3
        split at h3
        · rename_i c' fs e
          obtain ⟨a, ob, ha, hfn, hob, rm⟩ := rl3.at e (by intro z; cases z)
          rw [hix3] at ha; cases ha
          cases ob <;> simp only [RM] at rm
          rename_i C2 dx2 gs
          exact h3 _ _ H3 _ (Ext.frz (o := .ins C2 dx2 gs) hix3 hfn) (rl3.frz hix3 hfn hob) (.obj upd_same rm.1 (rm.2.mono (H := H3) (H' := H3) (Ext.frz (o := .ins C2 dx2 gs) hix3 hfn)))
        · exact h3.elim
    | _ => exact h3.elim
  have bb := hb { s with heap := _ } (Value.ref (s.heap.objs.size + 1) :: us) I2.kIn (by rw [List.append_nil]; exact hl)
  rw [List.append_nil] at bb
  refine wpAny_call (make_map (f := f) I.kIn Mk.makes Mk.init (beq_iff_eq.mp Mk.fn) (codeAny_mono (G.run _ X.stack _ _ ⟨Value.ref (s.heap.objs.size + 1) :: us, []⟩ (Value.ref (s.heap.objs.size + 1) :: us) _ _ (WE W σ) (hr.make C us [])
    (I2.env0.make C us []) bb r2 hsp) fun z s' hq' => ?_))
  cases z with
  | error e => exact passAt tk σ pins _ _ e s' I2 hq'
  | ok fl =>
    cases fl with
    | ret u =>
      obtain ⟨v, H', I3, rv', ev, q3⟩ := I2.after hq'
      subst ev
      exact ⟨rv', ⟨V.ref (s.heap.objs.size + 1), H', I3, rfl, q3⟩⟩
    | next => exact False.elim hq'
    | brk => exact False.elim hq'
    | cont => exact False.elim hq'
theorem se_make {x : Str} {i : Nat} {frz : Bool} {es : List Expr} {sr : AS} {k n : Nat} {f C : Addr} (G : FnX X k f (n + 1) (Γ i)) (Mk : Mk X.K C f) (hm : X.mg x = some (.ref C)) (hr : Room (k + 1) X.A) (tk : Takes X W) (ha : SA X W Γ (a :: es) sr) (hn : AN n sr)
    (hg : Gl X x := by rfl) (hdb : (x == ("__debug__" : Str)) = false := by decide) (he : starEach (a :: es) X.env = (false, eval a X.env) :: starEach es X.env := by rfl) (hpl : (backTo pos (starEach es X.env)).any (·.1) = false := by rfl) :
    SE X W Γ (.Call (.Name x p) (a :: es) [] pos) (eMake x i frz sr) := by
  obtain ⟨t, pt, kt⟩ := ha
  refine ⟨fun σ H Q => t σ H fun vs H1 => vs.length = n ∧ ∃ F ι M ds, Rel X.K X.mg F ι M H1 ∧ RVs X.K X.mg F ι ds vs ∧ OkE X.K X.mg F ι H1 ((Γ i (.ref M.length :: ds) (M ++ [.ins x []])).bind fun v M2 => match v with
      | .non => if frz then (match M2[M.length]? with
        | some (.ins c' fs) => .ok (.obj c' fs) (M2.set M.length .dead)
        | _ => .stuck) else .ok (.ref M.length) M2
      | _ => .stuck) Q (WE W σ), ⟨fun pins s σ H Q I h => ?_⟩, fun ρ M F ι σ H Q rl er h => ?_⟩
  · refine wpAny_Call_Name_kw (ld_glob I hg hm ?_ hdb)
    refine PySem.W.callWith_K (h₀ := X.base) I.ok.mod.kin Mk.kp (thn (pt.run pos pins s σ H _ I h) fun us s1 hh => ?_) he hpl
    obtain ⟨vs, H1, I1, r, hv, F, ι, M, ds, rl, rv, q⟩ := hh
    exact ⟨I1.kIn, runMake (frz := frz) G Mk hm hr tk I1 rl rv (by rw [rv.len]; exact hv) r q⟩
  · unfold eMake at h
    cases e : sr Γ ρ M with
    | stuck => rw [e] at h; exact h.elim
    | exc c fs M1 => exact kt ρ M F ι σ H _ rl er (by rw [e] at h ⊢; exact h)
    | ok ds M1 =>
      refine kt ρ M F ι σ H _ rl er ?_
      rw [e] at h ⊢
      exact fun F1 ι1 H1 vs x1 rl1 rv1 => ⟨by rw [← rv1.len]; exact hn Γ ρ M ds M1 e, F1, ι1, M1, ds, rl1, rv1, OkG.step x1 h⟩
theorem se_make0 {x : Str} {i : Nat} {frz : Bool} {k : Nat} {f C : Addr} (G : FnX X k f 1 (Γ i)) (Mk : Mk X.K C f) (hm : X.mg x = some (.ref C)) (hr : Room (k + 1) X.A) (tk : Takes X W) (hg : Gl X x := by rfl) (hdb : (x == ("__debug__" : Str)) = false := by decide) :
    SE X W Γ (.Call (.Name x p) [] [] pos) (eMake x i frz aNil) := by
  refine ⟨fun σ H Q => ∃ F ι M, Rel X.K X.mg F ι M H ∧ OkE X.K X.mg F ι H (eMake x i frz aNil Γ [] M) Q (WE W σ), ⟨fun pins s σ H Q I h => ?_⟩, fun ρ M F ι σ H Q rl er h => ⟨F, ι, M, rl, h⟩⟩
  obtain ⟨F, ι, M, rl, q⟩ := h
  refine wpAny_Call_Name_kw (ld_glob I hg hm ?_ hdb)
  exact PySem.W.callWith_K0 I.kIn Mk.kp (runMake (us := []) (n := 0) (frz := frz) G Mk hm hr tk I rl .nil rfl .nil q)
/-! ### o.m(..), o.p -/
def eMeth (c m : Str) (q : Nat) (o : ES) (a : AS) : ES := fun Γ ρ M => (o Γ ρ M).bind fun x M1 => match insOf M1 x with
  | some (c', fs) => if c' = c ∧ lookD m fs = none then (a Γ ρ M1).bind fun ds M2 => Γ q (x :: ds) M2 else .stuck
  | none => .stuck
theorem se_meth {c m : Str} {q : Nat} {o : Expr} {so : ES} {es : List Expr} {sr : AS} {k n : Nat} {f C : Addr} {apos : Pos} {pl : Sem Bool} (G : FnX X k f (n + 1) (Γ q)) (hC : X.mg c = some (.ref C)) (cl : Cls X.K C) (hm : Meth X.K C m f) (hr : Room k X.A) (tk : Takes X W) (ho : SE X W Γ o so) (ha : SA X W Γ (a :: es) sr) (hn : AN n sr)
    (hst : starEach (a :: es) X.env = (false, eval a X.env) :: starEach es X.env := by rfl) (hpl : (backTo pos (starEach es X.env)).any (·.1) = false := by rfl)
    (ht : eval (.Call (.Attribute o m apos) (a :: es) [] pos) X.env = (do
      let ov ← eval o X.env
      standAt apos.atName
      let (f, first) ← holding [ov] (getMethod ov m pl)
      callWith pos f first (backTo pos (starEach (a :: es) X.env)) (backToKw pos (keywordEach [] X.env))) := by rfl) :
    SE X W Γ (.Call (.Attribute o m apos) (a :: es) [] pos) (eMeth c m q so sr) := by
  obtain ⟨t, pt, kt⟩ := ha
  obtain ⟨u, pu, ku⟩ := ho
  refine ⟨fun σ H Q => u σ H fun x H1 => ∃ ad dx gs, x = .ref ad ∧ H1 ad = some (.ins C dx gs) ∧ gs.lookup m = none ∧ t σ H1 fun vs H2 => vs.length = n ∧ ∃ F ι M d ds, Rel X.K X.mg F ι M H2 ∧ RV X.K X.mg F ι d x ∧ RVs X.K X.mg F ι ds vs ∧ OkE X.K X.mg F ι H2 (Γ q (d :: ds) M) Q (WE W σ),
    ⟨fun pins s σ H Q I h => ?_⟩, fun ρ M F ι σ H Q rl er h => ?_⟩
  · refine PySem.W.methodCall_KW (pl := pl) (thn (pu.run pins s σ H _ I h) fun uu s1 hh => ?_) ht
    obtain ⟨x, H1, I1, rx, ad, dx, gs, ex, ea, l, q1⟩ := hh
    subst ex
    obtain rfl : uu = Value.ref ad := rx
    refine getmeth_ok I1 ea cl hm l ?_
    refine PySem.W.callWith_K (first := [.ref ad]) (h₀ := X.base) I.ok.mod.kin hm.kp (thn (pt.run pos pins s1 σ H1 _ I1 q1) fun us s2 hh => ?_) hst hpl
    obtain ⟨vs, H2, I2, r, hv, F, ι, M, d, ds, rl, rd, rv, q2⟩ := hh
    exact ⟨I2.kIn, runF (us := .ref ad :: us) (vs := .ref ad :: vs) G hr rfl tk I2 rl (.cons rd rv) (by rw [List.length_cons, rv.len, hv]) (.cons rfl r) q2⟩
  · refine ku ρ M F ι σ H _ rl er (OkG.bind h |>.imp fun x H1 hx => ?_)
    obtain ⟨d, M1, F1, ι1, x1, rl1, rv1, h1⟩ := hx
    split at h1
    · rename_i c' fs e
      split at h1
      · rename_i hc
        obtain ⟨p, C', dx, gs, rfl, hp, hm', rf⟩ := insOf_at rl1 rv1 e
        rw [hc.1, hC] at hm'; cases hm'
        refine ⟨p, dx, gs, rfl, hp, (rf.look m).2 hc.2, ?_⟩
        cases e2 : sr Γ ρ M1 with
        | stuck => rw [e2] at h1; exact h1.elim
        | exc c fs M2 => exact kt ρ M1 F1 ι1 σ H1 _ rl1 (er.mono x1) (by rw [e2] at h1 ⊢; exact h1)
        | ok ds M2 =>
          refine kt ρ M1 F1 ι1 σ H1 _ rl1 (er.mono x1) ?_
          rw [e2] at h1 ⊢
          exact fun F2 ι2 H2 vs x2 rl2 rv2 => ⟨by rw [← rv2.len]; exact hn Γ ρ M1 ds M2 e2, F2, ι2, M2, d, ds, rl2, rv1.mono x2, rv2, OkG.step x2 h1⟩
      · exact h1.elim
    · exact h1.elim
def eMeth0 (c m : Str) (q : Nat) (o : ES) : ES := fun Γ ρ M => (o Γ ρ M).bind fun x M1 => match insOf M1 x with
  | some (c', fs) => if c' = c ∧ lookD m fs = none then Γ q [x] M1 else .stuck
  | none => .stuck
theorem se_meth0 {c m : Str} {q : Nat} {o : Expr} {so : ES} {k : Nat} {f C : Addr} {apos : Pos} {pl : Sem Bool} (G : FnX X k f 1 (Γ q)) (hC : X.mg c = some (.ref C)) (cl : Cls X.K C) (hm : Meth X.K C m f) (hr : Room k X.A) (tk : Takes X W) (ho : SE X W Γ o so)
    (ht : eval (.Call (.Attribute o m apos) [] [] pos) X.env = (do
      let ov ← eval o X.env
      standAt apos.atName
      let (f, first) ← holding [ov] (getMethod ov m pl)
      callWith pos f first (backTo pos (starEach [] X.env)) (backToKw pos (keywordEach [] X.env))) := by rfl) :
    SE X W Γ (.Call (.Attribute o m apos) [] [] pos) (eMeth0 c m q so) := by
  obtain ⟨u, pu, ku⟩ := ho
  refine ⟨fun σ H Q => u σ H fun x H1 => ∃ ad dx gs, x = .ref ad ∧ H1 ad = some (.ins C dx gs) ∧ gs.lookup m = none ∧ ∃ F ι M d, Rel X.K X.mg F ι M H1 ∧ RV X.K X.mg F ι d x ∧ OkE X.K X.mg F ι H1 (Γ q [d] M) Q (WE W σ),
    ⟨fun pins s σ H Q I h => ?_⟩, fun ρ M F ι σ H Q rl er h => ?_⟩
  · refine PySem.W.methodCall_KW (pl := pl) (thn (pu.run pins s σ H _ I h) fun uu s1 hh => ?_) ht
    obtain ⟨x, H1, I1, rx, ad, dx, gs, ex, ea, l, F, ι, M, d, rl, rd, q1⟩ := hh
    subst ex
    obtain rfl : uu = Value.ref ad := rx
    refine getmeth_ok I1 ea cl hm l ?_
    exact PySem.W.callWith_K0 (first := [.ref ad]) I1.kIn hm.kp (runF (us := [.ref ad]) (vs := [.ref ad]) G hr rfl tk I1 rl (.cons rd .nil) rfl (.cons rfl .nil) q1)
  · refine ku ρ M F ι σ H _ rl er (OkG.bind h |>.imp fun x H1 hx => ?_)
    obtain ⟨d, M1, F1, ι1, x1, rl1, rv1, h1⟩ := hx
    split at h1
    · rename_i c' fs e
      split at h1
      · rename_i hc
        obtain ⟨p, C', dx, gs, rfl, hp, hm', rf⟩ := insOf_at rl1 rv1 e
        rw [hc.1, hC] at hm'; cases hm'
        exact ⟨p, dx, gs, rfl, hp, (rf.look m).2 hc.2, F1, ι1, M1, d, rl1, rv1, h1⟩
      · exact h1.elim
    · exact h1.elim
end
end MP
set_option maxRecDepth 100000
set_option maxHeartbeats 4000000
namespace MP
open PySem L2

section
variable {X : Cx} {W : WX} {Γ : Calls} {e a b o : Expr} {se sa sb so : ES} {pos p : Pos}
/-! ### lists that change -/
theorem ref_lst {K : PySem.W.Frag} {mg : Str → Option Value} {F : Hp} {ι : List Addr} {H : Hp} {M : Mem} {k : Nat} {v : V} {xs : List D} (rl : Rel K mg F ι M H) (r : RV K mg F ι (.ref k) v) (e : M[k]? = some (.lst xs)) :
    ∃ p vs, v = .ref p ∧ ι[k]? = some p ∧ H p = some (.lst vs) ∧ RVs K mg F ι xs vs := by
  cases r with
  | ref hk =>
    obtain ⟨a, ob, ha, hf, ho, rm⟩ := rl.at e (by intro z; cases z)
    rw [hk] at ha; cases ha
    cases ob <;> simp only [RM] at rm
    exact ⟨_, _, rfl, hk, ho, rm⟩
def eAppend (o a : ES) : ES := fun Γ ρ M => (o Γ ρ M).bind fun x M1 => match x with
  | .ref k => match M1[k]? with
    | some (.lst _) => (a Γ ρ M1).bind fun y M2 => match M2[k]? with
      | some (.lst xs) => if xs.length < sizeLine then .ok .non (M2.set k (.lst (xs ++ [y]))) else .stuck
      | _ => .stuck
    | _ => .stuck
  | _ => .stuck
theorem se_append {apos : Pos} (ho : SE X W Γ o so) (ha : SE X W Γ a sa)
    (hbase : attributeBase o "append" X.env (eval o X.env) = eval o X.env := by rfl)
    (hfew : ((backTo pos (starEach [a] X.env)).all (fun x => !x.1) && (backToKw pos (keywordEach [] X.env)).all (fun x => x.1.isSome) && decide (([a]).length + ([] : List Keyword).length + (if ([] : List Keyword).isEmpty then 0 else 1) < 30)) = true := by rfl)
    (hline : (apos.endLine == pos.line) = true := by rfl) (hs : starEach [a] X.env = (false, eval a X.env) :: starEach [] X.env := by rfl) (hplain : (backTo pos (starEach [] X.env)).any (·.1) = false := by rfl) :
    SE X W Γ (.Call (.Attribute o "append" apos) [a] [] pos) (eAppend so sa) := by
  obtain ⟨t, q, k⟩ := ho
  obtain ⟨u, q', k'⟩ := ha
  refine ⟨_, pe_bm PySem.F.plainAttrs_list PySem.F.slot_list_append PySem.F.type_list_append mt_append q (pa_cons q' pa_nil hs) hbase hfew hline hs hplain, fun ρ M F ι σ H Q rl er h => ?_⟩
  refine k ρ M F ι σ H _ rl er (OkG.bind h |>.imp fun x H1 hx => ?_)
  obtain ⟨d, M1, F1, ι1, x1, rl1, rv1, h1⟩ := hx
  split at h1
  · rename_i kk
    split at h1
    · rename_i ys e1
      obtain ⟨p, vs, rfl, hk, hp, hs'⟩ := ref_lst rl1 rv1 e1
      refine ⟨.inl ⟨rfl, _, SqL.of hp⟩, ?_⟩
      refine k' ρ M1 F1 ι1 σ H1 _ rl1 (er.mono x1) (OkG.bind h1 |>.imp fun y H2 hy => ?_)
      obtain ⟨dy, M2, F2, ι2, x2, rl2, rv2, h2⟩ := hy
      split at h2
      · rename_i xs e2
        split at h2
        · rename_i hz
          obtain ⟨p2, vs2, ep, hk2, hp2, hs2⟩ := ref_lst rl2 (rv1.mono x2) e2
          cases ep
          refine ⟨_, _, _, rfl, rfl, hp2, by rw [← hs2.len]; exact hz, ?_⟩
          exact h2 F2 ι2 _ _ (Ext.set hk2) (rl2.set e2 (by intro z; cases z) hk2 (hs2.append (.cons rv2 .nil))) .non
        · exact h2.elim
      · exact h2.elim
    · exact h1.elim
  · exact h1.elim
def ePopAt (o a : ES) : ES := fun Γ ρ M => (o Γ ρ M).bind fun x M1 => match x with
  | .ref k => match M1[k]? with
    | some (.lst _) => (a Γ ρ M1).bind fun y M2 => match y with
      | .int i => match M2[k]? with
        | some (.lst xs) => match ixN xs.length i with
          | some j => match xs[j]? with
            | some d => if -(2 ^ 63) ≤ i ∧ i < 2 ^ 63 then .ok d (M2.set k (.lst (xs.eraseIdx j))) else .stuck
            | none => .stuck
          | none => .stuck
        | _ => .stuck
      | _ => .stuck
    | _ => .stuck
  | _ => .stuck
theorem se_popAt {apos : Pos} (ho : SE X W Γ o so) (ha : SE X W Γ a sa)
    (hbase : attributeBase o "pop" X.env (eval o X.env) = eval o X.env := by rfl)
    (hfew : ((backTo pos (starEach [a] X.env)).all (fun x => !x.1) && (backToKw pos (keywordEach [] X.env)).all (fun x => x.1.isSome) && decide (([a]).length + ([] : List Keyword).length + (if ([] : List Keyword).isEmpty then 0 else 1) < 30)) = true := by rfl)
    (hline : (apos.endLine == pos.line) = true := by rfl) (hs : starEach [a] X.env = (false, eval a X.env) :: starEach [] X.env := by rfl) (hplain : (backTo pos (starEach [] X.env)).any (·.1) = false := by rfl) :
    SE X W Γ (.Call (.Attribute o "pop" apos) [a] [] pos) (ePopAt so sa) := by
  obtain ⟨t, q, k⟩ := ho
  obtain ⟨u, q', k'⟩ := ha
  refine ⟨_, pe_bm PySem.F.plainAttrs_list PySem.F.slot_list_pop PySem.F.type_list_pop mt_popAt q (pa_cons q' pa_nil hs) hbase hfew hline hs hplain, fun ρ M F ι σ H Q rl er h => ?_⟩
  refine k ρ M F ι σ H _ rl er (OkG.bind h |>.imp fun x H1 hx => ?_)
  obtain ⟨d, M1, F1, ι1, x1, rl1, rv1, h1⟩ := hx
  split at h1
  · rename_i kk
    split at h1
    · rename_i ys e1
      obtain ⟨p, vs, rfl, hk, hp, hs'⟩ := ref_lst rl1 rv1 e1
      refine ⟨.inl ⟨rfl, _, SqL.of hp⟩, ?_⟩
      refine k' ρ M1 F1 ι1 σ H1 _ rl1 (er.mono x1) (OkG.bind h1 |>.imp fun y H2 hy => ?_)
      obtain ⟨dy, M2, F2, ι2, x2, rl2, rv2, h2⟩ := hy
      split at h2
      · split at h2
        · rename_i i _ xs e2
          split at h2
          · rename_i j hj
            split at h2
            · rename_i dd hd
              split at h2
              · rename_i hb
                obtain ⟨p2, vs2, ep, hk2, hp2, hs2⟩ := ref_lst rl2 (rv1.mono x2) e2
                cases ep
                cases rv2
                obtain ⟨w, hw, rw'⟩ := hs2.get hd
                refine ⟨_, _, _, _, _, rfl, rfl, hp2, hb.1, hb.2, by rw [← hs2.len]; exact (ixN_seq hj).1, hw, ?_⟩
                exact h2 F2 ι2 _ _ (Ext.set hk2) (rl2.set e2 (by intro z; cases z) hk2 (hs2.erase j)) rw'
              · exact h2.elim
            · exact h2.elim
          · exact h2.elim
        · exact h2.elim
      · exact h2.elim
    · exact h1.elim
  · exact h1.elim
/-- o[i] = v -/
def sSetIx (o i v : ES) : SS := fun Γ ρ M => (v Γ ρ M).toS ρ fun y M1 => (o Γ ρ M1).toS ρ fun x M2 => (i Γ ρ M2).toS ρ fun j M3 => match x, j with
  | .ref k, .int n => match M3[k]? with
    | some (.lst xs) => match ixN xs.length n with
      | some q => .next ρ (M3.set k (.lst (xs.set q y)))
      | none => .stuck
    | _ => .stuck
  | _, _ => .stuck
theorem ss_setIx {i v : Expr} {si sv : ES} {tpos : Pos} (ho : SE X W Γ o so) (hi : SE X W Γ i si) (hv : SE X W Γ v sv)
    (hs : swapsWithSole [.Subscript o i tpos] v pos.line X.env = pure false := by rfl) (hw : swappedStores [.Subscript o i tpos] v X.env = pure none := by rfl)
    (h1 : (assignEach [.Subscript o i tpos] X.env).map (·.2) = [assign (.Subscript o i tpos) X.env] := by rfl)
    (ha : ∀ v, assign (.Subscript o i tpos) X.env v = (do
      let ov ← holding [v] (eval o X.env)
      let iv ← holding [v, ov] (eval i X.env)
      standAt tpos
      holding [v, ov, iv] (setItem ov iv v)
      release [v, ov, iv] []) := by intro _; rfl) : SSt X W Γ (.Assign [.Subscript o i tpos] v pos) (sSetIx so si sv) := by
  obtain ⟨t, q, k⟩ := ho
  obtain ⟨ti, qi, ki⟩ := hi
  obtain ⟨tv, qv, kv⟩ := hv
  refine ⟨_, ps_asg qv (pg_sub q qi set_list ha) hs hw h1, fun ρ M F ι σ H D rl er h => ?_⟩
  refine kv ρ M F ι σ H _ rl er ((OkS.bind er h).imp fun y H1 hy => ?_)
  obtain ⟨dy, M1, F1, ι1, x1, rl1, rv1, h1⟩ := hy
  have er1 := er.mono x1
  refine k ρ M1 F1 ι1 σ H1 _ rl1 er1 ((OkS.bind er1 h1).imp fun x H2 hx => ?_)
  obtain ⟨dx, M2, F2, ι2, x2, rl2, rv2, h2⟩ := hx
  have er2 := er1.mono x2
  refine ki ρ M2 F2 ι2 σ H2 _ rl2 er2 ((OkS.bind er2 h2).imp fun j H3 hj => ?_)
  obtain ⟨dj, M3, F3, ι3, x3, rl3, rv3, h3⟩ := hj
  split at h3
  · split at h3
    · rename_i kk n _ xs e2
      split at h3
      · rename_i qq hq
        obtain ⟨p2, vs2, rfl, hk2, hp2, hs2⟩ := ref_lst rl3 (rv2.mono x3) e2
        cases rv3
        refine ⟨_, _, _, _, rfl, rfl, hp2, by rw [← hs2.len]; exact hq, ?_⟩
        exact h3 F3 ι3 _ σ (Ext.set hk2) (rl3.set e2 (by intro z; cases z) hk2 (hs2.set ((rv1.mono x2).mono x3) qq)) (er2.mono x3)
      · exact h3.elim
    · exact h3.elim
  · exact h3.elim
/-! o[i] += v, ints -/
open PyProof.Rows in
theorem pget_list : PGet X (rIxL X.K) := by
  intro pins s σ H x y v u Q I rx ry h
  obtain ⟨p, xs, i, z, rfl, rfl, hq, he, q⟩ := h
  cases rx
  obtain ⟨t, rfl⟩ := ry
  obtain ⟨its, r, pl, hz⟩ := I.list hq
  obtain ⟨j, h1, h2, h3, h4, h5⟩ := atI_get he
  obtain ⟨w, ew, rw'⟩ := r.get h2
  have hl := r.length
  have hn := line63
  have fin : EP X pins σ Q w s := ⟨z, H, I, rw', q⟩
  by_cases h0 : 0 ≤ i
  · have hj : i.toNat = j := by
      rw [seqIndex_of h0 h5] at h1
      exact Option.some.inj h1
    exact wpAny_getItem_list pl.isList h0 (by omega) (by rw [hj]; simpa using ew) fin
  · have hj : (i + (its.toArray.size : Int)).toNat = j := by
      rw [seqIndex_neg (by omega) h4] at h1
      rw [List.size_toArray, ← hl]
      exact Option.some.inj h1
    exact wpAny_getItem_list_neg pl.isList (by omega) (by rw [List.size_toArray] <;> omega) (by omega) (by rw [hj]; simpa using ew) fin
def sAugIx (o i v : ES) : SS := fun Γ ρ M => (o Γ ρ M).toS ρ fun x M1 => (i Γ ρ M1).toS ρ fun j M2 => match x, j with
  | .ref k, .int n => match M2[k]? with
    | some (.lst xs) => match atI xs n with
      | some (.int z) => (v Γ ρ M2).toS ρ fun y M3 => match y, M3[k]? with
        | .int w, some (.lst ys) => match ixN ys.length n with
          | some q => .next ρ (M3.set k (.lst (ys.set q (.int (z + w)))))
          | none => .stuck
        | _, _ => .stuck
      | _ => .stuck
    | _ => .stuck
  | _, _ => .stuck
theorem ss_augIx {i v : Expr} {si sv : ES} {tpos : Pos} (ho : SE X W Γ o so) (hi : SE X W Γ i si) (hv : SE X W Γ v sv)
    (ha : ∀ ov iv new, augStore i ov iv new = (do holding [new, ov, iv] (setItem ov iv new); release [new, ov, iv] []; pure .next) := by intros; rfl) : SSt X W Γ (.AugAssign (.Subscript o i tpos) .Add v pos) (sAugIx so si sv) := by
  obtain ⟨t, q, k⟩ := ho
  obtain ⟨ti, qi, ki⟩ := hi
  obtain ⟨tv, qv, kv⟩ := hv
  refine ⟨_, ps_augS q qi pget_list qv ip_add set_list ha, fun ρ M F ι σ H D rl er h => ?_⟩
  refine k ρ M F ι σ H _ rl er ((OkS.bind er h).imp fun x H1 hx => ?_)
  obtain ⟨dx, M1, F1, ι1, x1, rl1, rv1, h1⟩ := hx
  have er1 := er.mono x1
  refine ki ρ M1 F1 ι1 σ H1 _ rl1 er1 ((OkS.bind er1 h1).imp fun j H2 hj => ?_)
  obtain ⟨dj, M2, F2, ι2, x2, rl2, rv2, h2⟩ := hj
  have er2 := er1.mono x2
  split at h2
  · split at h2
    · rename_i kk n _ xs e2
      split at h2
      · rename_i z hz
        obtain ⟨p2, vs2, rfl, hk2, hp2, hs2⟩ := ref_lst rl2 (rv1.mono x2) e2
        cases rv2
        obtain ⟨w0, hw0, rw0⟩ := hs2.atI hz
        cases rw0
        refine ⟨_, _, _, _, rfl, rfl, SqL.of hp2, hw0, ?_⟩
        refine kv ρ M2 F2 ι2 σ H2 _ rl2 er2 ((OkS.bind er2 h2).imp fun y H3 hy => ?_)
        obtain ⟨dy, M3, F3, ι3, x3, rl3, rv3, h3⟩ := hy
        split at h3
        · rename_i w ys e3
          split at h3
          · rename_i qq hq
            obtain ⟨p3, vs3, ep, hk3, hp3, hs3⟩ := ref_lst rl3 ((rv1.mono x2).mono x3) e3
            cases ep
            cases rv3
            refine ⟨_, _, rfl, rfl, _, _, _, _, rfl, rfl, hp3, by rw [← hs3.len]; exact hq, ?_⟩
            exact h3 F3 ι3 _ σ (Ext.set hk3) (rl3.set e3 (by intro z; cases z) hk3 (hs3.set (.int _) qq)) (er2.mono x3)
          · exact h3.elim
        · exact h3.elim
      · exact h2.elim
    · exact h2.elim
  · exact h2.elim
/-- a, b = x, y -/
def sPar (i j : Nat) (a : AS) : SS := fun Γ ρ M => (a Γ ρ M).toS ρ fun vs M1 => match vs with
  | [v, w] => .next ((ρ.set i (some v)).set j (some w)) M1
  | _ => .stuck
theorem ss_par {i j : Nat} {x y : Str} {sr : AS} {px py pt : Pos} {kt k2 pt2} (hc : X.calm = true) (hN : X.N.Nodup) (hij : i ≠ j) (ha : SA X W Γ [a, b] sr)
    (hi : X.N[i]? = some x := by rfl) (hj : X.N[j]? = some y := by rfl) (hx : X.env.scope.names.lookup x = some .local := by rfl) (hy : X.env.scope.names.lookup y = some .local := by rfl)
    (hw : swappedStores [.Tuple [.Name x px, .Name y py] kt pt] (.Tuple [a, b] k2 pt2) X.env = pure (some [x, y]) := by rfl)
    (hs : swapsWithSole [.Tuple [.Name x px, .Name y py] kt pt] (.Tuple [a, b] k2 pt2) pos.line X.env = pure false := by rfl) :
    SSt X W Γ (.Assign [.Tuple [.Name x px, .Name y py] kt pt] (.Tuple [a, b] k2 pt2) pos) (sPar i j sr) := by
  obtain ⟨t, q, k⟩ := ha
  refine ⟨_, ps_par hc hN hi hj hij hx hy q hw hs, fun ρ M F ι σ H D rl er h => ?_⟩
  refine k ρ M F ι σ H _ rl er ((OkS.bind er h).imp fun vs H1 hv => ?_)
  obtain ⟨ds, M1, F1, ι1, x1, rl1, rv1, h1⟩ := hv
  split at h1
  · obtain ⟨v, w, rfl, r1, r2⟩ := rv1.two
    exact ⟨v, w, rfl, h1 F1 ι1 H1 _ Ext.refl rl1 (((er.mono x1).set i r1).set j r2)⟩
  · exact h1.elim

/-! ### truth -/
def dTru (M : Mem) : D → Option Bool
  | .non => some false
  | .bl k => some k
  | .int i => some (i != 0)
  | .str z => if z.length ≤ sizeLine then some ((z.length : Int) != 0) else none
  | .tup xs => some (!xs.isEmpty)
  | d => (lstOf M d).map fun xs => !xs.isEmpty
def tTruth (a : ES) : TSm := fun Γ ρ M => (a Γ ρ M).bind fun x M1 => R.opt (dTru M1 x) M1
theorem RVs.emp {K : PySem.W.Frag} {mg : Str → Option Value} {F : Hp} {ι : List Addr} {ds : List D} {vs : List V} (r : RVs K mg F ι ds vs) : vs.isEmpty = ds.isEmpty := by cases r <;> rfl
theorem tru_at {K : PySem.W.Frag} {mg : Str → Option Value} {F : Hp} {ι : List Addr} {H : Hp} {M : Mem} {d : D} {v : V} {k : Bool} (rl : Rel K mg F ι M H) (r : RV K mg F ι d v) (h : dTru M d = some k) : TruV K v H k := by
  have lists : ∀ {xs : List D}, lstOf M d = some xs → k = !xs.isEmpty → TruV K v H k := fun {xs} h1 h2 => by
    obtain ⟨p, vs, rfl, hp, hs⟩ := lstOf_at rl r h1
    exact .inl ⟨vs, hp, by rw [h2, hs.emp]⟩
  cases d with
  | non => cases r; cases h; rfl
  | bl b => cases r; cases h; rfl
  | int i => cases r; cases h; rfl
  | str z =>
    cases r
    simp only [dTru] at h
    split at h
    · rename_i hz; cases h; exact ⟨hz, rfl⟩
    · cases h
  | tup xs =>
    cases r with
    | tup hf hs => cases h; exact .inr (.inl ⟨_, sqt_up rl hf, by rw [hs.emp]⟩)
  | lst xs => simp only [dTru, Option.map_eq_some_iff] at h; obtain ⟨ys, h1, h2⟩ := h; exact lists h1 h2.symm
  | scr xs => simp only [dTru, Option.map_eq_some_iff] at h; obtain ⟨ys, h1, h2⟩ := h; exact lists h1 h2.symm
  | obj c fs => simp only [dTru, Option.map_eq_some_iff] at h; obtain ⟨ys, h1, h2⟩ := h; exact lists h1 h2.symm
  | ref n => simp only [dTru, Option.map_eq_some_iff] at h; obtain ⟨ys, h1, h2⟩ := h; exact lists h1 h2.symm
  | exn a d c fs => simp only [dTru, Option.map_eq_some_iff] at h; obtain ⟨ys, h1, h2⟩ := h; exact lists h1 h2.symm
  | err c fs => simp only [dTru, Option.map_eq_some_iff] at h; obtain ⟨ys, h1, h2⟩ := h; exact lists h1 h2.symm
theorem st_truth (h : SE X W Γ e se) (he : ∀ whole, isTrue e X.env whole = (do let v ← whole; standAt e.pos; holding [v] (truthy v)) := by intro _; rfl) : ST X W Γ e (tTruth se) := by
  obtain ⟨t, q, k⟩ := h
  refine ⟨_, pt_truth q he, fun ρ M F ι σ H Q rl er h => ?_⟩
  refine k ρ M F ι σ H _ rl er (OkG.bind h |>.imp fun x H1 hx => ?_)
  obtain ⟨d, M1, F1, ι1, x1, rl1, rv1, h1⟩ := hx
  cases e : dTru M1 d with
  | none => rw [e] at h1; exact h1.elim
  | some kk =>
    rw [e] at h1
    exact ⟨kk, tru_at rl1 rv1 e, OkT.ok' h1 rl1⟩

/-! ### == of data -/
mutual
def toPy (M : Mem) : D → Option PyData
  | .non => some .none
  | .bl b => some (.bool b)
  | .int i => some (.int i)
  | .str x => some (.str x)
  | .tup xs => (toPys M xs).map .tuple
  | .lst xs => (toPys M xs).map .list
  | .scr xs => (toPys M xs).map .list
  | .obj _ _ => none
  | .ref _ => none
  | .exn _ _ _ _ => none
  | .err _ _ => none
def toPys (M : Mem) : List D → Option (List PyData)
  | [] => some []
  | d :: ds => match toPy M d, toPys M ds with
    | some x, some xs => some (x :: xs)
    | _, _ => none
end
mutual
theorem toPy_dp {K : PySem.W.Frag} {mg : Str → Option Value} {F : Hp} {ι : List Addr} {H : Hp} {M : Mem} (rl : Rel K mg F ι M H) : ∀ {d : D} {v : V} {x : PyData}, RV K mg F ι d v → toPy M d = some x → Dp K H v x
  | _, _, _, .non, h => by simp only [toPy] at h; cases h; exact .non
  | _, _, _, .bl b, h => by simp only [toPy] at h; cases h; exact .bl b
  | _, _, _, .int i, h => by simp only [toPy] at h; cases h; exact .int i
  | _, _, _, .str i, h => by simp only [toPy] at h; cases h; exact .str i
  | _, _, _, .tup hf hs, h => by
    simp only [toPy, Option.map_eq_some_iff] at h
    obtain ⟨xs, h1, rfl⟩ := h
    exact .tup (sqt_up rl hf) (toPys_dp rl hs h1)
  | _, _, _, .lst hf hs, h => by
    simp only [toPy, Option.map_eq_some_iff] at h
    obtain ⟨xs, h1, rfl⟩ := h
    exact .lst (SqL.of (rl.sub _ _ hf)) (toPys_dp rl hs h1)
  | _, _, _, .scr hf hs, h => by
    simp only [toPy, Option.map_eq_some_iff] at h
    obtain ⟨xs, h1, rfl⟩ := h
    exact .lst (sql_up rl hf) (toPys_dp rl hs h1)
  | _, _, _, .obj _ _ _, h => by simp only [toPy] at h; cases h
  | _, _, _, .ref _, h => by simp only [toPy] at h; cases h
  | _, _, _, .exn _ _ _, h => by simp only [toPy] at h; cases h
  | _, _, _, .exn0 _, h => by simp only [toPy] at h; cases h
  | _, _, _, .err _ _ _ _, h => by simp only [toPy] at h; cases h
  | _, _, _, .err0 _ _, h => by simp only [toPy] at h; cases h
theorem toPys_dp {K : PySem.W.Frag} {mg : Str → Option Value} {F : Hp} {ι : List Addr} {H : Hp} {M : Mem} (rl : Rel K mg F ι M H) : ∀ {ds : List D} {vs : List V} {xs : List PyData}, RVs K mg F ι ds vs → toPys M ds = some xs → DpAll K H vs xs
  | _, _, _, .nil, h => by simp only [toPys] at h; cases h; exact .nil
  | _, _, _, .cons (d := d) (ds := ds) r t, h => by
    simp only [toPys] at h
    cases e1 : toPy M d with
    | none => rw [e1] at h; cases h
    | some x =>
      cases e2 : toPys M ds with
      | none => rw [e1, e2] at h; cases h
      | some xs => rw [e1, e2] at h; cases h; exact .cons (toPy_dp rl r e1) (toPys_dp rl t e2)
end
def scalD : D → D → Bool
  | .non, .non => true | .non, .int _ => true | .int _, .non => true | .non, .bl _ => true | .bl _, .non => true | .non, .str _ => true | .str _, .non => true
  | .int _, .int _ => true | .bl _, .bl _ => true | .str _, .str _ => true
  | .int _, .str _ => true | .str _, .int _ => true | .bl _, .str _ => true | .str _, .bl _ => true
  | _, _ => false
def eqS : D → D → Bool
  | .non, .non => true
  | .int i, .int j => decide (i = j)
  | .bl i, .bl j => decide (i = j)
  | .str i, .str j => decide (i = j)
  | _, _ => false
theorem scal_at {K : PySem.W.Frag} {mg : Str → Option Value} {F : Hp} {ι : List Addr} {x y : D} {u v : V} (rx : RV K mg F ι x u) (ry : RV K mg F ι y v) (h : scalD x y = true) : scal u v = true ∧ decide (u = v) = eqS x y := by
  cases rx <;> cases ry <;> first | (cases h; done) | exact ⟨rfl, rfl⟩ | exact ⟨rfl, by simp [eqS]⟩
def dEqV (M : Mem) (x y : D) : Option Bool := if scalD x y = true then some (eqS x y) else match toPy M x, toPy M y with
  | some a, some b => if SeqAt.shaped a = true ∧ SeqAt.shaped b = true then some (PyData.eqv a b) else none
  | _, _ => none
def dEq : Mem → D → D → Option D := fun M x y => (dEqV M x y).map .bl
def dNe : Mem → D → D → Option D := fun M x y => (dEqV M x y).map fun k => .bl (!k)
def rEq' (K : PySem.W.Frag) : R2 := fun x y H Q => rEq x y H Q ∨ rEqD K x y H Q
def rNe' (K : PySem.W.Frag) : R2 := fun x y H Q => rNe x y H Q ∨ rNeD K x y H Q
theorem op_eq' (hu : X.A.units + 64 < cLine) : OpR X (compareOp .Eq) (rEq' X.K) := op_eq.or (op_eqD hu)
theorem op_ne' (hu : X.A.units + 64 < cLine) : OpR X (compareOp .NotEq) (rNe' X.K) := op_ne.or (op_neD hu)
theorem dEqV_cases {M : Mem} {x y : D} {k : Bool} (h : dEqV M x y = some k) : (scalD x y = true ∧ k = eqS x y) ∨ ∃ a b, toPy M x = some a ∧ toPy M y = some b ∧ SeqAt.shaped a = true ∧ SeqAt.shaped b = true ∧ k = PyData.eqv a b := by
  unfold dEqV at h
  split at h
  · rename_i hs; cases h; exact .inl ⟨hs, rfl⟩
  · split at h
    · rename_i a b e1 e2
      split at h
      · rename_i hs; cases h; exact .inr ⟨a, b, e1, e2, hs.1, hs.2, rfl⟩
      · cases h
    · cases h
theorem o2_eq {K : PySem.W.Frag} {mg : Str → Option Value} : O2 K mg (rEq' K) dEq := by
  intro F ι M H Q x y z u v rl rx ry e k
  obtain ⟨kk, h1, rfl⟩ := Option.map_eq_some_iff.mp e
  rcases dEqV_cases h1 with ⟨hs, rfl⟩ | ⟨a, b, e1, e2, s1, s2, rfl⟩
  · obtain ⟨q1, q2⟩ := scal_at rx ry hs
    exact .inl ⟨q1, by rw [q2]; exact q_fin k rl (.bl _)⟩
  · exact .inr ⟨a, b, toPy_dp rl rx e1, toPy_dp rl ry e2, s1, s2, q_fin k rl (.bl _)⟩
theorem o2_ne {K : PySem.W.Frag} {mg : Str → Option Value} : O2 K mg (rNe' K) dNe := by
  intro F ι M H Q x y z u v rl rx ry e k
  obtain ⟨kk, h1, rfl⟩ := Option.map_eq_some_iff.mp e
  rcases dEqV_cases h1 with ⟨hs, rfl⟩ | ⟨a, b, e1, e2, s1, s2, rfl⟩
  · obtain ⟨q1, q2⟩ := scal_at rx ry hs
    exact .inl ⟨q1, by rw [q2]; exact q_fin k rl (.bl _)⟩
  · exact .inr ⟨a, b, toPy_dp rl rx e1, toPy_dp rl ry e2, s1, s2, q_fin k rl (.bl _)⟩
/-- is None -/
def dIsN : Mem → D → D → Option D := fun _ x y => match y with
  | .non => some (.bl (match x with | .non => true | _ => false))
  | _ => none
def dNotN : Mem → D → D → Option D := fun _ x y => match y with
  | .non => some (.bl (match x with | .non => false | _ => true))
  | _ => none
def rIsN' : R2 := fun x y H Q => y = .non ∧ Q (.bl (decide (x = .non))) H
def rNotN' : R2 := fun x y H Q => y = .non ∧ Q (.bl (!decide (x = .non))) H
theorem o2_isN {K : PySem.W.Frag} {mg : Str → Option Value} : O2 K mg rIsN' dIsN := by
  intro F ι M H Q x y z u v rl rx ry e k
  cases ry <;> first | (cases e; done) | skip
  refine ⟨rfl, ?_⟩
  cases rx <;> (cases e; exact q_fin k rl (.bl _))
theorem o2_notN {K : PySem.W.Frag} {mg : Str → Option Value} : O2 K mg rNotN' dNotN := by
  intro F ι M H Q x y z u v rl rx ry e k
  cases ry <;> first | (cases e; done) | skip
  refine ⟨rfl, ?_⟩
  cases rx <;> (cases e; exact q_fin k rl (.bl _))
theorem op_isN' : OpR X (compareOp .Is) rIsN' := op_isN
theorem op_notN' : OpR X (compareOp .IsNot) rNotN' := op_notN

/-! ### isinstance -/
/-- the built-in type of what is no instance -/
def tyD (M : Mem) : D → Option String
  | .non => some "NoneType"
  | .bl _ => some "bool"
  | .int _ => some "int"
  | .str _ => some "str"
  | .tup _ => some "tuple"
  | .lst _ => some "list"
  | .ref k => match M[k]? with
    | some (.lst _) => some "list"
    | some (.dct _) => some "dict"
    | _ => none
  | _ => none
theorem tyD_at {K : PySem.W.Frag} {mg : Str → Option Value} {F : Hp} {ι : List Addr} {H : Hp} {M : Mem} {d : D} {v : V} {T : String} (rl : Rel K mg F ι M H) (r : RV K mg F ι d v) (h : tyD M d = some T) : TyX K H v (.type T) := by
  cases r with
  | non => cases h; exact .base .non
  | bl b => cases h; exact .base (.bl b)
  | int i => cases h; exact .base (.int i)
  | str x => cases h; exact .base (.str x)
  | tup hf hs =>
    cases h
    rcases hf with (hf | ⟨o, hf⟩) | ⟨o, its, n, h1, h2, _⟩
    · exact .base (.tup (rl.sub _ _ hf))
    · exact .fTuple (rl.sub _ _ hf)
    · exact .kTuple h1 h2
  | lst hf hs => cases h; exact .base (.lst (rl.sub _ _ hf))
  | scr hf hs => cases h
  | obj _ _ _ => cases h
  | exn _ _ _ => cases h
  | exn0 _ => cases h
  | err _ _ _ _ => cases h
  | err0 _ _ => cases h
  | ref hk =>
    unfold tyD at h
    dsimp only at h
    split at h
    · rename_i xs e
      cases h
      obtain ⟨a, ob, ha, hf, ho, rm⟩ := rl.at e (by intro z; cases z)
      rw [hk] at ha; cases ha
      cases ob <;> simp only [RM] at rm
      exact .base (.lst ho)
    · rename_i xs e
      cases h
      obtain ⟨a, ob, ha, hf, ho, rm⟩ := rl.at e (by intro z; cases z)
      rw [hk] at ha; cases ha
      cases ob <;> simp only [RM] at rm
      exact .base (.dK ho)
    · cases h
/-- what isinstance asks of an own class -/
structure OwnCls (K : PySem.W.Frag) (C : Addr) : Prop where
  cl : Cls K C
  ha : PySem.W.findIn K (.ref C) "__class__" = some (some (.builtin "object.__class__"))
  hn : PySem.W.specialIn K (.builtin "object.__class__") "__get__" = some (some (.builtin "getset_descriptor.__get__"))
  htk : PySem.W.takesIn K (.builtin "object.__class__") = some true
  hm : PySem.W.mroIn K C (.type "object") = some true
/-- isinstance(a, T), T a built-in type: what it is of data; of instances never -/
def dIsiB (T : String) (M : Mem) (d : D) : Option Bool := match tyD M d with
  | some S => kitB S T
  | none => none
def eIsiB (T : String) (a : ES) : ES := fun Γ ρ M => (a Γ ρ M).bind fun x M1 => R.opt ((dIsiB T M1 x).map .bl) M1
theorem se_isiB {x : Str} {T : String} {px : Pos} (hm : X.mg "isinstance" = none) (hx : X.mg x = none) (hT : bootBuiltins x = some (.type T)) (ha : SE X W Γ a sa) (hgx : Gl X x := by rfl) (hg : Gl X "isinstance" := by rfl)
    (hnx : x ≠ "__name__" := by decide) (hdx : (x == ("__debug__" : Str)) = false := by decide) (hb : bootBuiltins "isinstance" = some (.builtin "isinstance") := by decide +kernel)
    (he : starEach [a, .Name x px] X.env = (false, eval a X.env) :: starEach [.Name x px] X.env := by rfl) (he2 : starEach [.Name x px] X.env = (false, eval (.Name x px) X.env) :: starEach [] X.env := by rfl) (hpl : (backTo pos (starEach [.Name x px] X.env)).any (·.1) = false := by rfl) :
    SE X W Γ (.Call (.Name "isinstance" p) [a, .Name x px] [] pos) (eIsiB T sa) := by
  obtain ⟨t, q, k⟩ := ha
  refine ⟨_, pe_callB call_isi hg hm hb (pa_cons q (pa_cons (pe_bltn (v := .ty T) hgx hx hT rfl hnx hdx) pa_nil he2) he) (by decide) (by decide) he hpl, fun ρ M F ι σ H Q rl er h => ?_⟩
  refine k ρ M F ι σ H _ rl er (OkG.bind h |>.imp fun v H1 hv => ?_)
  obtain ⟨d, M1, F1, ι1, x1, rl1, rv1, h1⟩ := hv
  obtain ⟨z, hz, kk⟩ := okopt h1
  obtain ⟨r, hr, rfl⟩ := Option.map_eq_some_iff.mp hz
  unfold dIsiB at hr
  split at hr
  · rename_i S eS
    exact ⟨v, .ty T, .type S, .type T, r, rfl, .ty T, tyD_at rl1 rv1 eS, kit_ty hr, q_fin kk rl1 (.bl _)⟩
  · cases hr
/-- isinstance(a, C), C an own class; yes of its instances, no of built-in things -/
def dIsiC (c : Str) (M : Mem) (d : D) : Option Bool := match insOf M d with
  | some (c', _) => if c' = c then some true else none
  | none => match tyD M d with
    | some S => if S ∈ ["NoneType", "bool", "int", "str", "tuple", "list", "dict"] then some false else none
    | none => none
def eIsiC (c : Str) (a : ES) : ES := fun Γ ρ M => (a Γ ρ M).bind fun x M1 => R.opt ((dIsiC c M1 x).map .bl) M1
theorem se_isiC {c : Str} {C : Addr} {px : Pos} (hm : X.mg "isinstance" = none) (hC : X.mg c = some (.ref C)) (oc : OwnCls X.K C) (h1 : PySem.W.kitOne X.K (.ref C) (.ref C) = some true) (h0 : ∀ S ∈ ["NoneType", "bool", "int", "str", "tuple", "list", "dict"], PySem.W.kitOne X.K (.type S) (.ref C) = some false) (ha : SE X W Γ a sa) (hgx : Gl X c := by rfl) (hg : Gl X "isinstance" := by rfl)
    (hdx : (c == ("__debug__" : Str)) = false := by decide) (hb : bootBuiltins "isinstance" = some (.builtin "isinstance") := by decide +kernel)
    (he : starEach [a, .Name c px] X.env = (false, eval a X.env) :: starEach [.Name c px] X.env := by rfl) (he2 : starEach [.Name c px] X.env = (false, eval (.Name c px) X.env) :: starEach [] X.env := by rfl) (hpl : (backTo pos (starEach [.Name c px] X.env)).any (·.1) = false := by rfl) :
    SE X W Γ (.Call (.Name "isinstance" p) [a, .Name c px] [] pos) (eIsiC c sa) := by
  obtain ⟨t, q, k⟩ := ha
  refine ⟨_, pe_callB call_isi hg hm hb (pa_cons q (pa_cons (pe_glob (v := .ref C) hgx hC rfl hdx) pa_nil he2) he) (by decide) (by decide) he hpl, fun ρ M F ι σ H Q rl er h => ?_⟩
  refine k ρ M F ι σ H _ rl er (OkG.bind h |>.imp fun v H1 hv => ?_)
  obtain ⟨d, M1, F1, ι1, x1, rl1, rv1, h2⟩ := hv
  obtain ⟨z, hz, kk⟩ := okopt h2
  obtain ⟨r, hr, rfl⟩ := Option.map_eq_some_iff.mp hz
  unfold dIsiC at hr
  split at hr
  · rename_i c' fs e
    split at hr
    · rename_i hc
      cases hr
      obtain ⟨pp, C', dx, gs, rfl, hp, hm', rf⟩ := insOf_at rl1 rv1 e
      rw [hc, hC] at hm'; cases hm'
      exact ⟨.ref pp, .ref C, .ref C, .ref C, true, rfl, .own C, .base (.ins hp oc.cl oc.ha oc.hn oc.htk oc.hm), h1, q_fin kk rl1 (.bl _)⟩
    · cases hr
  · split at hr
    · rename_i S eS
      split at hr
      · rename_i hS
        cases hr
        exact ⟨v, .ref C, .type S, .ref C, false, rfl, .own C, tyD_at rl1 rv1 eS, h0 S hS, q_fin kk rl1 (.bl _)⟩
      · cases hr
    · cases hr

/-! ### a property -/
def eProp (c : Str) (q : Nat) (o : ES) : ES := fun Γ ρ M => (o Γ ρ M).bind fun x M1 => match insOf M1 x with
  | some (c', _) => if c' = c then (match Γ q [x] M1 with | .ok d M2 => .ok d M2 | _ => .stuck) else .stuck
  | none => .stuck
theorem se_prop {c f : Str} {q : Nat} {k : Nat} {C pp g : Addr} (G : FnX X k g 1 (Γ q)) (hC : X.mg c = some (.ref C)) (cl : Cls X.K C) (hp : PropOf X.K C f pp g) (hr : Room (k + 1) X.A) (ho : SE X W Γ o so) (hab : attributeBase o f X.env (eval o X.env) = eval o X.env := by rfl) :
    SE X W Γ (.Attribute o f pos) (eProp c q so) := by
  obtain ⟨t, qq, kk⟩ := ho
  obtain ⟨fd, ps, G, hb, hps⟩ := G.ex
  refine ⟨_, pe_prop qq cl hp G hr hb .nil (E := fun _ _ _ => False) passL hab, fun ρ M F ι σ H Q rl er h => ?_⟩
  refine kk ρ M F ι σ H _ rl er (OkG.bind h |>.imp fun v H1 hv => ?_)
  obtain ⟨d, M1, F1, ι1, x1, rl1, rv1, h1⟩ := hv
  split at h1
  · rename_i c' fs e
    split at h1
    · rename_i hc
      obtain ⟨p1, C', dx, gs, rfl, hp1, hm', rf⟩ := insOf_at rl1 rv1 e
      rw [hc, hC] at hm'; cases hm'
      refine ⟨p1, dx, gs, rfl, hp1, rfl, F1, ι1, M1, [d], rl1, .cons rv1 .nil, ?_⟩
      generalize Γ q [d] M1 = r at h1 ⊢
      cases r with
      | ok d2 M2 => exact h1
      | exc c fs M2 => exact h1.elim
      | stuck => exact h1.elim
    · exact h1.elim
  · exact h1.elim
/-! ### sep.join(xs), f-strings -/
def dJoin (a : Str) (M : Mem) (d : D) : Option D := (match d with
  | .tup xs => some xs
  | d => lstOf M d).bind fun xs => (asStrs xs).bind fun ys => if (ys.map fun y : Str => y.length).sum + ys.length * a.length ≤ 16777216 then some (.str (Txt.join a ys)) else none
def eJoin (o a : ES) : ES := fun Γ ρ M => (o Γ ρ M).bind fun x M1 => match x with
  | .str z => (a Γ ρ M1).bind fun y M2 => R.opt (dJoin z M2 y) M2
  | _ => .stuck
theorem se_join {apos : Pos} (ho : SE X W Γ o so) (ha : SE X W Γ a sa) (hs : starEach [a] X.env = [(false, eval a X.env)] := by rfl) (hbase : attributeBase o "join" X.env (eval o X.env) = eval o X.env := by rfl) (hline : (apos.endLine == pos.line) = true := by rfl) :
    SE X W Γ (.Call (.Attribute o "join" apos) [a] [] pos) (eJoin so sa) := by
  obtain ⟨t, q, k⟩ := ho
  obtain ⟨u, q', k'⟩ := ha
  refine ⟨_, pe_join q q' hs hbase hline, fun ρ M F ι σ H Q rl er h => ?_⟩
  refine k ρ M F ι σ H _ rl er (OkG.bind h |>.imp fun x H1 hx => ?_)
  obtain ⟨d, M1, F1, ι1, x1, rl1, rv1, h1⟩ := hx
  split at h1
  · rename_i z
    cases rv1
    refine ⟨⟨_, rfl⟩, ?_⟩
    refine k' ρ M1 F1 ι1 σ H1 _ rl1 (er.mono x1) (OkG.bind h1 |>.imp fun y H2 hy => ?_)
    obtain ⟨dy, M2, F2, ι2, x2, rl2, rv2, h2⟩ := hy
    obtain ⟨zz, hz, kk⟩ := okopt h2
    unfold dJoin at hz
    obtain ⟨xs, e1, e2⟩ := Option.bind_eq_some_iff.mp hz
    obtain ⟨ys, e3, e4⟩ := Option.bind_eq_some_iff.mp e2
    split at e4
    · rename_i hsz
      cases e4
      have key : ∃ p, y = .ref p ∧ (SqL X.K H2 p (ys.map V.str) ∨ SqT X.K H2 p (ys.map V.str)) := by
        split at e1
        · cases e1
          cases rv2 with
          | tup hf hs =>
            rw [asStrs_eq e3] at hs
            rw [hs.strs] at hf
            exact ⟨_, rfl, .inr (sqt_up rl2 hf)⟩
        · obtain ⟨p, vs, rfl, hp, hs⟩ := lstOf_at rl2 rv2 e1
          rw [asStrs_eq e3] at hs
          rw [hs.strs] at hp
          exact ⟨p, rfl, .inl hp⟩
      obtain ⟨p, rfl, hp⟩ := key
      exact ⟨z, p, ys, rfl, rfl, hp, hsz, q_fin kk rl2 (.str _)⟩
    · cases e4
  · exact h1.elim
def eFmt (a : ES) : ES := fun Γ ρ M => (a Γ ρ M).bind fun x M1 => match x with
  | .str y => if y.length ≤ sizeLine then .ok (.str y) M1 else .stuck
  | .int i => if i.natAbs.log2 < 1920 then .ok (.str (toString i)) M1 else .stuck
  | _ => .stuck
theorem se_fmt (h : SE X W Γ e se) : SE X W Γ (.FormattedValue e (-1) none pos) (eFmt se) := by
  obtain ⟨t, q, k⟩ := h
  refine ⟨_, pe_fmt q, fun ρ M F ι σ H Q rl er h => ?_⟩
  refine k ρ M F ι σ H _ rl er (OkG.bind h |>.imp fun x H1 hx => ?_)
  obtain ⟨d, M1, F1, ι1, x1, rl1, rv1, h1⟩ := hx
  cases rv1 with
  | str y =>
    dsimp only at h1
    split at h1
    · rename_i hz; exact .inl ⟨y, rfl, hz, h1.ok rl1 (.str _)⟩
    · exact h1.elim
  | int i =>
    dsimp only at h1
    split at h1
    · rename_i hz; exact .inr ⟨i, rfl, hz, h1.ok rl1 (.str _)⟩
    · exact h1.elim
  | _ => exact h1.elim
def jFrom (acc : Str) : List ES → ES
  | [] => fun _ _ M => .ok (.str acc) M
  | a :: r => fun Γ ρ M => (a Γ ρ M).bind fun x M1 => match x with
    | .str y => if (acc ++ y).length ≤ sizeLine then jFrom (acc ++ y) r Γ ρ M1 else .stuck
    | _ => .stuck
inductive SJ (X : Cx) (W : WX) (Γ : Calls) : List Expr → List ES → Prop where
  | nil : SJ X W Γ [] []
  | cons {e : Expr} {s : ES} {es : List Expr} {ss : List ES} (h : SE X W Γ e s) (r : SJ X W Γ es ss) : SJ X W Γ (e :: es) (s :: ss)
theorem sj_run {es : List Expr} {ss : List ES} (h : SJ X W Γ es ss) : ∃ ts, PJ X es ts ∧ ∀ acc ρ M F ι σ H (Q : Str → Hp → Prop), Rel X.K X.mg F ι M H → ER X.K X.mg F ι ρ σ → OkE X.K X.mg F ι H (jFrom acc ss Γ ρ M) (fun v H' => ∀ x, v = .str x → Q x H') (WE W σ) → tJs ts acc σ H Q := by
  induction h with
  | nil => exact ⟨[], .nil, fun acc ρ M F ι σ H Q rl er h => h.ok rl (.str _) acc rfl⟩
  | cons h r ih =>
    obtain ⟨t, q, k⟩ := h
    obtain ⟨ts, qs, ks⟩ := ih
    refine ⟨t :: ts, .cons q qs, fun acc ρ M F ι σ H Q rl er h => ?_⟩
    refine k ρ M F ι σ H _ rl er (OkG.bind h |>.imp fun x H1 hx => ?_)
    obtain ⟨d, M1, F1, ι1, x1, rl1, rv1, h1⟩ := hx
    cases rv1 with
    | str y =>
      dsimp only at h1
      split at h1
      · rename_i hz; exact ⟨y, rfl, hz, ks (acc ++ y) ρ M1 F1 ι1 σ H1 Q rl1 (er.mono x1) h1⟩
      · exact h1.elim
    | _ => exact h1.elim
theorem se_joined {v1 v2 : Expr} {rest : List Expr} {ss : List ES} (h : SJ X W Γ (v1 :: v2 :: rest) ss) : SE X W Γ (.JoinedStr (v1 :: v2 :: rest) pos) (jFrom Str.empty ss) := by
  obtain ⟨ts, q, k⟩ := sj_run h
  exact ⟨_, pe_joined q, fun ρ M F ι σ H Q rl er h => k Str.empty ρ M F ι σ H _ rl er (h.imp fun v H' hv x ex => by rw [ex] at hv; exact hv)⟩
end
end MP
set_option maxRecDepth 100000
set_option maxHeartbeats 4000000
namespace MP
open PySem L2

section
variable {X : Cx} {W : WX} {Γ : Calls} {e a b o : Expr} {se sa sb so : ES} {pos p : Pos} {pins : List (Addr × Obj)} {σ : St} {H : Hp} {s : Shared}
/-- what an own method gives, no error let out -/
abbrev OkN (X : Cx) (F : Hp) (ι : List Addr) (H : Hp) (r : R D) (Q : VK) : Prop := OkE X.K X.mg F ι H r Q (fun _ _ _ => False)
theorem runN {k n : Nat} {f : Addr} {g : List D → Mem → R D} {A' : Around} {F : Hp} {ι : List Addr} {M : Mem} {ds : List D} {vs : List V} {us : List Value} {Q : VK} (G : FnX X k f n g) (hr : Room k A') (hA : A'.frames = X.A.frames) (I : Inv X pins σ H s)
    (rl : Rel X.K X.mg F ι M H) (rv : RVs X.K X.mg F ι ds vs) (hn : ds.length = n) (r : Vals vs us) (h : OkN X F ι H (g ds M) Q) : wpAny (model X.prog X.w) A' (call (.ref f) us) (EP X pins σ Q) X.xe s :=
  runF (W := fun _ _ _ _ => False) G hr hA takes0 I rl rv hn r h
/-- only what gives a value -/
def R.calm (r : R D) (f : D → Mem → R D) : R D := match r with
  | .ok d M => f d M
  | _ => .stuck
theorem calm_ok {F : Hp} {ι : List Addr} {r : R D} {f : D → Mem → R D} {Q : VK} {E : XK} (h : OkE X.K X.mg F ι H (r.calm f) Q E) :
    OkN X F ι H r (fun v H1 => ∃ d M1 F1 ι1, Ext F ι H F1 ι1 H1 ∧ Rel X.K X.mg F1 ι1 M1 H1 ∧ RV X.K X.mg F1 ι1 d v ∧ OkE X.K X.mg F1 ι1 H1 (f d M1) Q E) := by
  cases r with
  | ok d M' => exact fun F2 ι2 H2 v y rl rv => ⟨d, M', F2, ι2, y, rl, rv, OkG.step y h⟩
  | exc c fs M' => exact h.elim
  | stuck => exact h
/-- len(o), repr(o), str(o) -/
def eDun1 (c : Str) (q : Nat) (chk : D → Bool) (o : ES) : ES := fun Γ ρ M => (o Γ ρ M).bind fun x M1 => match insOf M1 x with
  | some (c', _) => if c' = c then (Γ q [x] M1).calm fun d M2 => if chk d = true then .ok d M2 else .stuck else .stuck
  | none => .stuck
def isLen : D → Bool
  | .int n => decide (0 ≤ n) && decide (n < 2 ^ 63)
  | _ => false
def isTxt : D → Bool
  | .str _ => true
  | _ => false
/-- the rule by values -/
def rDun1 (X : Cx) (Γ : Calls) (C : Addr) (q : Nat) (chk : D → Bool) : List V → Hp → VK → Prop := fun vs H Q => ∃ p dx gs F ι M d, vs = [.ref p] ∧ H p = some (.ins C dx gs) ∧ Rel X.K X.mg F ι M H ∧ RV X.K X.mg F ι d (.ref p) ∧
  OkN X F ι H (Γ q [d] M) fun v H1 => ∃ d2 M1 F1 ι1, Ext F ι H F1 ι1 H1 ∧ Rel X.K X.mg F1 ι1 M1 H1 ∧ RV X.K X.mg F1 ι1 d2 v ∧ chk d2 = true ∧ Q v H1
theorem inst_of (I : Inv X pins σ H s) {p C dx : Addr} {gs : List (Str × V)} (hp : H p = some (.ins C dx gs)) : ∃ od, PySem.W.InstAt s.heap p (PySem.W.instObj C dx) C (some od) := by
  obtain ⟨mA, J, _⟩ := ins_get I.hok hp
  obtain ⟨od, J, _⟩ := J.look
  exact ⟨od, J⟩
theorem run_dun1 {c : Str} {q : Nat} {chk : D → Bool} {C : Addr} (hC : X.mg c = some (.ref C)) {t : TE} (k : ∀ ρ M F ι σ H Q, Rel X.K X.mg F ι M H → ER X.K X.mg F ι ρ σ → OkE X.K X.mg F ι H (so Γ ρ M) Q (WE W σ) → t σ H Q) :
    ∀ ρ M F ι σ H Q, Rel X.K X.mg F ι M H → ER X.K X.mg F ι ρ σ → OkE X.K X.mg F ι H (eDun1 c q chk so Γ ρ M) Q (WE W σ) → tCB (rDun1 X Γ C q chk) (tCons t tNil) σ H Q := by
  intro ρ M F ι σ H Q rl er h
  refine k ρ M F ι σ H _ rl er (OkG.bind h |>.imp fun v H1 hv => ?_)
  obtain ⟨d, M1, F1, ι1, x1, rl1, rv1, h1⟩ := hv
  split at h1
  · rename_i c' fs e
    split at h1
    · rename_i hc
      obtain ⟨p1, C', dx, gs, rfl, hp1, hm', rf⟩ := insOf_at rl1 rv1 e
      rw [hc, hC] at hm'; cases hm'
      refine ⟨p1, dx, gs, F1, ι1, M1, d, rfl, hp1, rl1, rv1, (calm_ok h1).imp fun v H2 hv => ?_⟩
      obtain ⟨d2, M2, F2, ι2, x2, rl2, rv2, h2⟩ := hv
      split at h2
      · rename_i hk; exact ⟨d2, M2, F2, ι2, x2, rl2, rv2, hk, h2.ok rl2 rv2⟩
      · exact h2.elim
    · exact h1.elim
  · exact h1.elim
theorem call_lenO {k : Nat} {C f : Addr} {q : Nat} (G : FnX X k f 1 (Γ q)) (hs : PySem.W.findIn X.K (.ref C) "__len__" = some (some (.ref f))) (hr : Room (k + 1) X.A) : CallR X (.builtin "len") (rDun1 X Γ C q isLen) := by
  intro pins s σ H vs us Q I r h
  obtain ⟨p, dx, gs, F, ι, M, d, rfl, hp, rl, rd, ok⟩ := h
  obtain ⟨u, rfl, ru⟩ := vals1 r
  cases (show u = Value.ref p from ru)
  obtain ⟨od, J⟩ := inst_of I hp
  obtain ⟨m, hF⟩ := I.fr
  refine PySem.W.len_K hF I.ok.mod.kin J hs G.fn (thn (runN G hr.in1 rfl I rl (.cons rd .nil) rfl (.cons rfl .nil) ok) fun v s1 hv => ?_)
  obtain ⟨w, H1, I1, rw', d2, M1, F1, ι1, x1, rl1, rv1, hk, hq⟩ := hv
  cases rv1 <;> first | (cases hk; done) | skip
  rename_i n
  obtain ⟨t, rfl⟩ := (show ∃ t, v = Value.int n t from rw')
  have hk' : (0 ≤ n) ∧ n < 2 ^ 63 := by simpa [isLen] using hk
  exact ⟨hk', ⟨.int n, H1, I1.tok _, ⟨_, rfl⟩, hq⟩⟩
theorem call_reprO {k : Nat} {C f : Addr} {q : Nat} (G : FnX X k f 1 (Γ q)) (hs : PySem.W.findIn X.K (.ref C) "__repr__" = some (some (.ref f))) (hr : Room (k + 1) X.A) : CallR X (.builtin "repr") (rDun1 X Γ C q isTxt) := by
  intro pins s σ H vs us Q I r h
  obtain ⟨p, dx, gs, F, ι, M, d, rfl, hp, rl, rd, ok⟩ := h
  obtain ⟨u, rfl, ru⟩ := vals1 r
  cases (show u = Value.ref p from ru)
  obtain ⟨od, J⟩ := inst_of I hp
  obtain ⟨m, hF⟩ := I.fr
  refine PySem.W.repr_K hr.in1.units0 hF I.ok.mod.kin J hs G.fn (thn (runN G hr.in1 rfl I rl (.cons rd .nil) rfl (.cons rfl .nil) ok) fun v s1 hv => ?_)
  obtain ⟨w, H1, I1, rw', d2, M1, F1, ι1, x1, rl1, rv1, hk, hq⟩ := hv
  cases rv1 <;> first | (cases hk; done) | skip
  rename_i n
  obtain ⟨t, rfl⟩ := (show ∃ t, v = Value.str n t from rw')
  exact ⟨.str n, H1, I1, ⟨_, rfl⟩, hq⟩
theorem call_strO {k : Nat} {C f : Addr} {q : Nat} (G : FnX X k f 1 (Γ q)) (hs : PySem.W.findIn X.K (.ref C) "__str__" = some (some (.ref f))) (hr : Room (k + 2) X.A) : CallR X (.type "str") (rDun1 X Γ C q isTxt) := by
  intro pins s σ H vs us Q I r h
  obtain ⟨p, dx, gs, F, ι, M, d, rfl, hp, rl, rd, ok⟩ := h
  obtain ⟨u, rfl, ru⟩ := vals1 r
  cases (show u = Value.ref p from ru)
  obtain ⟨od, J⟩ := inst_of I hp
  refine PySem.W.kso_call hr.in1.in1.units0 I.kIn J hs G.fn (thn (runN G hr.in1.in1 rfl I rl (.cons rd .nil) rfl (.cons rfl .nil) ok) fun v s1 hv => ?_)
  obtain ⟨w, H1, I1, rw', d2, M1, F1, ι1, x1, rl1, rv1, hk, hq⟩ := hv
  cases rv1 <;> first | (cases hk; done) | skip
  rename_i n
  obtain ⟨t, rfl⟩ := (show ∃ t, v = Value.str n t from rw')
  exact ⟨.str n, H1, I1, ⟨_, rfl⟩, hq⟩
theorem se_dunB {x : Str} {id : String} {c : Str} {q : Nat} {chk : D → Bool} {C : Addr} (hc : CallR X (.builtin id) (rDun1 X Γ C q chk)) (hC : X.mg c = some (.ref C)) (hm : X.mg x = none) (hv : bootBuiltins x = some (.builtin id)) (ho : SE X W Γ o so)
    (hg : Gl X x := by rfl) (hn : x ≠ "__name__" := by decide) (hdb : (x == ("__debug__" : Str)) = false := by decide) (he : starEach [o] X.env = (false, eval o X.env) :: starEach [] X.env := by rfl) (hpl : (backTo pos (starEach [] X.env)).any (·.1) = false := by rfl) :
    SE X W Γ (.Call (.Name x p) [o] [] pos) (eDun1 c q chk so) := by
  obtain ⟨t, qq, k⟩ := ho
  exact ⟨_, pe_callB hc hg hm hv (pa_cons qq pa_nil he) hn hdb he hpl, run_dun1 hC k⟩
theorem se_dunTy {x : Str} {T : String} {c : Str} {q : Nat} {chk : D → Bool} {C : Addr} (hc : CallR X (.type T) (rDun1 X Γ C q chk)) (hC : X.mg c = some (.ref C)) (hm : X.mg x = none) (hv : bootBuiltins x = some (.type T)) (ho : SE X W Γ o so)
    (hg : Gl X x := by rfl) (hn : x ≠ "__name__" := by decide) (hdb : (x == ("__debug__" : Str)) = false := by decide) (he : starEach [o] X.env = (false, eval o X.env) :: starEach [] X.env := by rfl) (hpl : (backTo pos (starEach [] X.env)).any (·.1) = false := by rfl) :
    SE X W Γ (.Call (.Name x p) [o] [] pos) (eDun1 c q chk so) := by
  obtain ⟨t, qq, k⟩ := ho
  exact ⟨_, pe_callTy hc hg hm hv (pa_cons qq pa_nil he) hn hdb he hpl, run_dun1 hC k⟩
/-! ### o == v, o != v, o[i], o | p by own methods -/
def eDun2 (c : Str) (q : Nat) (okb : Mem → D → Bool) (chk : D → Option D) (a b : ES) : ES := fun Γ ρ M => (a Γ ρ M).bind fun x M1 => (b Γ ρ M1).bind fun y M2 => match insOf M2 x with
  | some (c', _) => if c' = c ∧ okb M2 y = true then (Γ q [x, y] M2).calm fun d M3 => R.opt (chk d) M3 else .stuck
  | none => .stuck
def rDun2 (X : Cx) (Γ : Calls) (C : Addr) (q : Nat) (okb : Mem → D → Bool) (chk : D → Option D) : R2 := fun x y H Q => ∃ p dx gs F ι M d e, x = .ref p ∧ H p = some (.ins C dx gs) ∧ Rel X.K X.mg F ι M H ∧ RV X.K X.mg F ι d x ∧ RV X.K X.mg F ι e y ∧ okb M e = true ∧
  OkN X F ι H (Γ q [d, e] M) fun v H1 => ∃ d2 d3 M1 F1 ι1, Ext F ι H F1 ι1 H1 ∧ Rel X.K X.mg F1 ι1 M1 H1 ∧ RV X.K X.mg F1 ι1 d2 v ∧ chk d2 = some d3 ∧ ∀ F' ι' H' w, Ext F1 ι1 H1 F' ι' H' → Rel X.K X.mg F' ι' M1 H' → RV X.K X.mg F' ι' d3 w → Q w H'
theorem run_dun2 {c : Str} {q : Nat} {okb : Mem → D → Bool} {chk : D → Option D} {C : Addr} (hC : X.mg c = some (.ref C)) {ta tb : TE} (ka : ∀ ρ M F ι σ H Q, Rel X.K X.mg F ι M H → ER X.K X.mg F ι ρ σ → OkE X.K X.mg F ι H (sa Γ ρ M) Q (WE W σ) → ta σ H Q)
    (kb : ∀ ρ M F ι σ H Q, Rel X.K X.mg F ι M H → ER X.K X.mg F ι ρ σ → OkE X.K X.mg F ι H (sb Γ ρ M) Q (WE W σ) → tb σ H Q) :
    ∀ ρ M F ι σ H Q, Rel X.K X.mg F ι M H → ER X.K X.mg F ι ρ σ → OkE X.K X.mg F ι H (eDun2 c q okb chk sa sb Γ ρ M) Q (WE W σ) → tOp (rDun2 X Γ C q okb chk) ta tb σ H Q := by
  intro ρ M F ι σ H Q rl er h
  refine ka ρ M F ι σ H _ rl er (OkG.bind h |>.imp fun v H1 hv => ?_)
  obtain ⟨d, M1, F1, ι1, x1, rl1, rv1, h1⟩ := hv
  refine kb ρ M1 F1 ι1 σ H1 _ rl1 (er.mono x1) (OkG.bind h1 |>.imp fun u H2 hu => ?_)
  obtain ⟨e, M2, F2, ι2, x2, rl2, rv2, h2⟩ := hu
  split at h2
  · rename_i c' fs ei
    split at h2
    · rename_i hc
      obtain ⟨p1, C', dx, gs, rfl, hp1, hm', rf⟩ := insOf_at rl2 (rv1.mono x2) ei
      rw [hc.1, hC] at hm'; cases hm'
      refine ⟨p1, dx, gs, F2, ι2, M2, d, e, rfl, hp1, rl2, rv1.mono x2, rv2, hc.2, (calm_ok h2).imp fun w H3 hw => ?_⟩
      obtain ⟨d2, M3, F3, ι3, x3, rl3, rv3, h3⟩ := hw
      obtain ⟨z, hz, kk⟩ := okopt h3
      exact ⟨d2, z, M3, F3, ι3, x3, rl3, rv3, hz, kk⟩
    · exact h2.elim
  · exact h2.elim
/-- what stands right of ==: a thing of a built-in type, or of the same class -/
def okEq (c : Str) (M : Mem) (d : D) : Bool := match insOf M d with
  | some (c', _) => decide (c' = c)
  | none => match tyD M d with
    | some S => decide (S ∈ ["NoneType", "bool", "int", "str", "tuple", "list", "dict"])
    | none => false
theorem okEq_looks {c : Str} {C : Addr} {F : Hp} {ι : List Addr} {M : Mem} {e : D} {y : V} {v : Value} (hC : X.mg c = some (.ref C)) (h0 : ∀ S ∈ ["NoneType", "bool", "int", "str", "tuple", "list", "dict"], PySem.W.subIn X.K (.type S) (.ref C) = some false) (I : Inv X pins σ H s) (rl : Rel X.K X.mg F ι M H) (re : RV X.K X.mg F ι e y) (rv : RelV y v) (h : okEq c M e = true) :
    ∃ tb, PySem.W.Looks (model X.prog X.w) s.heap (typeOf v) tb ∧ PySem.W.notFirst X.K C tb = true := by
  unfold okEq at h
  split at h
  · rename_i c' fs ei
    obtain ⟨p1, C', dx, gs, rfl, hp1, hm', rf⟩ := insOf_at rl re ei
    rw [of_decide_eq_true h, hC] at hm'; cases hm'
    cases (show v = Value.ref p1 from rv)
    obtain ⟨od, J⟩ := inst_of I hp1
    exact ⟨_, J.type, by simp [PySem.W.notFirst]⟩
  · split at h
    · rename_i S eS
      obtain ⟨P, Z, pp, _⟩ := kit_of I rv (tyD_at rl re eS)
      exact ⟨_, Z.ty _ _ I.kIn pp, by simp [PySem.W.notFirst, h0 S (of_decide_eq_true h)]⟩
    · cases h
theorem noNI {x : V} {v : Value} {Q : Value → Shared → Prop} {s' : Shared} (r : RelV x v) (h : Q v s') : PySem.W.CmpBack Q v s' := by
  cases x with
  | non => cases (show v = Value.none from r); exact h
  | bl b => cases (show v = Value.bool b from r); exact h
  | int i => obtain ⟨t, rfl⟩ := (show ∃ t, v = Value.int i t from r); exact h
  | str i => obtain ⟨t, rfl⟩ := (show ∃ t, v = Value.str i t from r); exact h
  | byt i => obtain ⟨t, rfl⟩ := (show ∃ t, v = Value.bytes i t from r); exact h
  | flt i => obtain ⟨t, rfl⟩ := (show ∃ t, v = Value.float i t from r); exact h
  | ref a => cases (show v = Value.ref a from r); exact h
  | ty n => cases (show v = Value.type n from r); exact h
theorem op_eqO {c : Str} {q : Nat} {k : Nat} {C f : Addr} (G : FnX X k f 2 (Γ q)) (hC : X.mg c = some (.ref C)) (hs : PySem.W.findIn X.K (.ref C) "__eq__" = some (some (.ref f))) (h0 : ∀ S ∈ ["NoneType", "bool", "int", "str", "tuple", "list", "dict"], PySem.W.subIn X.K (.type S) (.ref C) = some false) (hr : Room k X.A) :
    OpR X (compareOp .Eq) (rDun2 X Γ C q (okEq c) some) := by
  intro pins s σ H x y v u Q I rx ry h
  obtain ⟨p, dx, gs, F, ι, M, d, e, rfl, hp, rl, rd, re, hok, ok⟩ := h
  cases (show v = Value.ref p from rx)
  obtain ⟨od, J⟩ := inst_of I hp
  obtain ⟨m, hF⟩ := I.fr
  obtain ⟨tb, hL, hnf⟩ := okEq_looks hC h0 I rl re ry hok
  unfold compareOp
  refine PySem.W.cmp_K (op := .Eq) hr.units0 hF I.ok.mod.kin J hL hnf hs G.fn (thn (runN G hr rfl I rl (.cons rd (.cons re .nil)) rfl (.cons rfl (.cons ry .nil)) ok) fun w s1 hw => ?_)
  obtain ⟨z, H1, I1, rz, d2, d3, M1, F1, ι1, x1, rl1, rv1, hk, hq⟩ := hw
  cases hk
  exact noNI rz ⟨z, H1, I1, rz, hq F1 ι1 H1 z Ext.refl rl1 rv1⟩
theorem se_eqO {c : Str} {q : Nat} {k : Nat} {C f : Addr} (G : FnX X k f 2 (Γ q)) (hC : X.mg c = some (.ref C)) (hs : PySem.W.findIn X.K (.ref C) "__eq__" = some (some (.ref f))) (h0 : ∀ S ∈ ["NoneType", "bool", "int", "str", "tuple", "list", "dict"], PySem.W.subIn X.K (.type S) (.ref C) = some false) (hr : Room k X.A)
    (ha : SE X W Γ a sa) (hb : SE X W Γ b sb) : SE X W Γ (.Compare a [.Eq] [b] pos) (eDun2 c q (okEq c) some sa sb) := by
  obtain ⟨ta, pa, ka⟩ := ha
  obtain ⟨tb, pb, kb⟩ := hb
  exact ⟨_, pe_cmpR (op_eqO G hC hs h0 hr) pa pb (nomark _), run_dun2 hC ka kb⟩
theorem st_eqO {c : Str} {q : Nat} {k : Nat} {C f : Addr} (G : FnX X k f 2 (Γ q)) (hC : X.mg c = some (.ref C)) (hs : PySem.W.findIn X.K (.ref C) "__eq__" = some (some (.ref f))) (h0 : ∀ S ∈ ["NoneType", "bool", "int", "str", "tuple", "list", "dict"], PySem.W.subIn X.K (.type S) (.ref C) = some false) (hr : Room k X.A)
    (ha : SE X W Γ a sa) (hb : SE X W Γ b sb) : ST X W Γ (.Compare a [.Eq] [b] pos) (tVal (eDun2 c q (okEq c) some sa sb)) := by
  obtain ⟨ta, pa, ka⟩ := ha
  obtain ⟨tb, pb, kb⟩ := hb
  exact ⟨_, pt_cmpR (op_eqO G hC hs h0 hr) pa pb (nomark _), runV (run_dun2 hC ka kb)⟩
/-! != by the own == -/
def chkNe : D → Option D
  | .bl k => some (.bl (!k))
  | _ => none
theorem ifBoundB {prog : Program} {w : World} {A : Around} {E : Value → Shared → Prop} {K : PySem.W.Frag} {x C : Addr} {ox : Obj} {od : Option Obj} {name : Str} {id : String} {args : List Value} {Q : Option Value → Shared → Prop} (Xk : K.In s.heap) (I : PySem.W.InstAt s.heap x ox C od) (hs : PySem.W.findIn K (.ref C) name = some (some (.builtin id)))
    (hb : ∀ self, bindSpecial (.builtin id) self = pure (.builtin id, [self])) (h : wpAny (model prog w) A (call (.builtin id) (.ref x :: args)) (fun v => Q (some v)) E s) : wpAny (model prog w) A (callSpecialIfBound? (.ref x) name args) Q E s := by
  simp only [callSpecialIfBound?, bindSpecialIfBound?]
  refine wpAny_holding (wpAny_bind (wpAny_bind (wpAny_bind (I.type.here ((PySem.W.looks_findIn Xk hs).here ?_)))))
  have fin : wpAny (model prog w) A (call (.builtin id) ([.ref x] ++ args) >>= fun v => pure (some v)) Q E s := wpAny_bind (wpAny_mono h (fun v s' h' => wpAny_pure h') fun _ _ h' => h')
  refine wpAny_bind (wpAny_askSetting (wpAny_ite ?_))
  split
  · exact wpAny_bind ((PySem.W.Looks.of_pure (hb _)).here (wpAny_pure (by exact fin)))
  · exact wpAny_tryCatch (wpAny_bind ((PySem.W.Looks.of_pure (hb _)).here (wpAny_pure (by exact fin))))
open Builtin PySem.Spec PySem.Calls PyProof.Rows PySem.W in
theorem op_neO {c : Str} {q : Nat} {k : Nat} {C f : Addr} (G : FnX X k f 2 (Γ q)) (hC : X.mg c = some (.ref C)) (hs : PySem.W.findIn X.K (.ref C) "__eq__" = some (some (.ref f))) (hs2 : PySem.W.findIn X.K (.ref C) "__ne__" = some (some (.builtin "object.__ne__"))) (hmr : PySem.W.mroIn X.K C (.type "object") = some true)
    (h0 : ∀ S ∈ ["NoneType", "bool", "int", "str", "tuple", "list", "dict"], PySem.W.subIn X.K (.type S) (.ref C) = some false) (hr : Room (k + 1) X.A) :
    OpR X (compareOp .NotEq) (rDun2 X Γ C q (okEq c) chkNe) := by
  intro pins s σ H x y v u Q I rx ry h
  obtain ⟨p, dx, gs, F, ι, M, d, e, rfl, hp, rl, rd, re, hok, ok⟩ := h
  cases (show v = Value.ref p from rx)
  obtain ⟨od, J⟩ := inst_of I hp
  obtain ⟨tb, hL, hnf⟩ := okEq_looks hC h0 I rl re ry hok
  have Xk := I.kIn
  have one : wpAny (model X.prog X.w) X.A (tryCompare (.ref p) "__ne__" u) (fun r s' => ∃ z, r = some z ∧ EP X pins σ Q z s') X.xe s := by
    unfold tryCompare
    refine wpAny_bind (ifBoundB Xk J hs2 PySem.F.slot_tuple_iterator_ne.bind ?_)
    refine wpAny_call (codeAny_call_builtin PySem.F.slot_tuple_iterator_ne.plain PySem.F.cmpEntry_ne (PySem.W.check_slot (i := "object.__ne__") (owner := "object") (n := "__ne__") PySem.F.cmpKind_ne PySem.F.cmpSplit_ne (J.type.andThen (PySem.W.looks_mroIn Xk hmr)) (PySem.F.cmpArgs_ne _ _) ?_))
    unfold Builtin.«object.__ne__»
    refine wpAny_bind (m := slotArgs "__ne__" 1 _) (wpAny_pure ?_)
    refine wpAny_bind (m := cRoomFor _ _) (wpAny_cRoomFor hr.in1.units0 ?_)
    refine wpAny_bind (m := callSpecialIfBound? (.ref p) (Str.ofString "__eq__") _) (PySem.W.ifBound_K Xk J hs G.fn (thn (runN G hr.in1 rfl I rl (.cons rd (.cons re .nil)) rfl (.cons rfl (.cons ry .nil)) ok) fun w s1 hw => ?_))
    obtain ⟨z, H1, I1, rz, d2, d3, M1, F1, ι1, x1, rl1, rv1, hk, hq⟩ := hw
    cases rv1 <;> first | (cases hk; done) | skip
    rename_i bb
    cases (show w = Value.bool bb from rz)
    cases hk
    refine wpAny_bind (m := truthy (.bool bb)) (wpAny_truthy_bool ?_)
    refine wpAny_pure ?_
    first
      | exact wpAny_pure ⟨_, rfl, ⟨.bl (!bb), H1, I1, rfl, hq F1 ι1 H1 _ Ext.refl rl1 (.bl _)⟩⟩
      | exact ⟨_, rfl, wpAny_pure ⟨_, rfl, ⟨.bl (!bb), H1, I1, rfl, hq F1 ι1 H1 _ Ext.refl rl1 (.bl _)⟩⟩⟩
  unfold compareOp richCompare
  simp only [oneThing_ref]
  refine wpAny_holding (wpAny_bind (wpAny_cRoomFor hr.units0 ?_))
  refine wpAny_bind (J.type.here (wpAny_bind (hL.here ?_)))
  split
  · rename_i qq
    have e : PySem.W.subIn X.K tb (.ref C) = some false := by
      rcases Bool.or_eq_true_iff.mp hnf with e | e
      · rw [beq_iff_eq.mp e] at qq; simp at qq
      · exact beq_iff_eq.mp e
    refine wpAny_bind ((PySem.W.looks_subIn Xk e).here ?_)
    simp only [Bool.false_eq_true, if_false]
    refine wpAny_bind (wpAny_mono one (fun r s' z => ?_) fun _ _ e => e)
    obtain ⟨v, rfl, hq⟩ := z
    exact wpAny_pure hq
  · refine wpAny_bind (wpAny_pure ?_)
    simp only [Bool.false_eq_true, if_false]
    refine wpAny_bind (wpAny_mono one (fun r s' z => ?_) fun _ _ e => e)
    obtain ⟨v, rfl, hq⟩ := z
    exact wpAny_pure hq
end
end MP
set_option maxRecDepth 100000
set_option maxHeartbeats 4000000
namespace MP
open PySem L2

section
variable {X : Cx} {W : WX} {Γ : Calls} {e a b o : Expr} {se sa sb so : ES} {pos p : Pos} {pins : List (Addr × Obj)} {σ : St} {H : Hp} {s : Shared}
theorem se_neO {c : Str} {q : Nat} {k : Nat} {C f : Addr} (G : FnX X k f 2 (Γ q)) (hC : X.mg c = some (.ref C)) (hs : PySem.W.findIn X.K (.ref C) "__eq__" = some (some (.ref f))) (hs2 : PySem.W.findIn X.K (.ref C) "__ne__" = some (some (.builtin "object.__ne__"))) (hmr : PySem.W.mroIn X.K C (.type "object") = some true)
    (h0 : ∀ S ∈ ["NoneType", "bool", "int", "str", "tuple", "list", "dict"], PySem.W.subIn X.K (.type S) (.ref C) = some false) (hr : Room (k + 1) X.A) (ha : SE X W Γ a sa) (hb : SE X W Γ b sb) : SE X W Γ (.Compare a [.NotEq] [b] pos) (eDun2 c q (okEq c) chkNe sa sb) := by
  obtain ⟨ta, pa, ka⟩ := ha
  obtain ⟨tb, pb, kb⟩ := hb
  exact ⟨_, pe_cmpR (op_neO G hC hs hs2 hmr h0 hr) pa pb (nomark _), run_dun2 hC ka kb⟩
theorem st_neO {c : Str} {q : Nat} {k : Nat} {C f : Addr} (G : FnX X k f 2 (Γ q)) (hC : X.mg c = some (.ref C)) (hs : PySem.W.findIn X.K (.ref C) "__eq__" = some (some (.ref f))) (hs2 : PySem.W.findIn X.K (.ref C) "__ne__" = some (some (.builtin "object.__ne__"))) (hmr : PySem.W.mroIn X.K C (.type "object") = some true)
    (h0 : ∀ S ∈ ["NoneType", "bool", "int", "str", "tuple", "list", "dict"], PySem.W.subIn X.K (.type S) (.ref C) = some false) (hr : Room (k + 1) X.A) (ha : SE X W Γ a sa) (hb : SE X W Γ b sb) : ST X W Γ (.Compare a [.NotEq] [b] pos) (tVal (eDun2 c q (okEq c) chkNe sa sb)) := by
  obtain ⟨ta, pa, ka⟩ := ha
  obtain ⟨tb, pb, kb⟩ := hb
  exact ⟨_, pt_cmpR (op_neO G hC hs hs2 hmr h0 hr) pa pb (nomark _), runV (run_dun2 hC ka kb)⟩
/-! o[i] by the own __getitem__ -/
theorem se_ixO {c : Str} {q : Nat} {k : Nat} {C f : Addr} (G : FnX X k f 2 (Γ q)) (hC : X.mg c = some (.ref C)) (hs : PySem.W.findIn X.K (.ref C) "__getitem__" = some (some (.ref f))) (hfi : PySem.W.fnIn X.K f = true) (hr : Room (k + 1) X.A) (ha : SE X W Γ a sa) (hb : SE X W Γ b sb)
    (hsl : ∀ o i, subscripted b true o i = runValue (.builtin "lifetime.subscript" ⟨[o, i], []⟩) := by intro _ _; with_unfolding_all rfl) : SE X W Γ (.Subscript a b pos) (eDun2 c q (fun _ _ => true) some sa sb) := by
  obtain ⟨ta, pa, ka⟩ := ha
  obtain ⟨tb, pb, kb⟩ := hb
  refine ⟨tOp (rDun2 X Γ C q (fun _ _ => true) some) ta tb, ⟨fun pins s σ H Q I h => ?_⟩, run_dun2 hC ka kb⟩
  refine PyProof.Rows.Subscript_ (binT pa pb I h fun v u s2 x y H2 I2 rx ry hq => ?_)
  obtain ⟨p, dx, gs, F, ι, M, d, e, rfl, hp, rl, rd, re, hok, ok⟩ := hq
  cases (show v = Value.ref p from rx)
  obtain ⟨od, J⟩ := inst_of I2 hp
  obtain ⟨m, hF⟩ := I2.fr
  refine PySem.W.sub_K hF I2.ok.mod.kin J hs hfi G.fn (thn (runN G hr.in1 rfl I2 rl (.cons rd (.cons re .nil)) rfl (.cons rfl (.cons ry .nil)) ok) fun w s1 hw => ?_) (hsl _ _)
  obtain ⟨z, H1, I1, rz, d2, d3, M1, F1, ι1, x1, rl1, rv1, hk, hq⟩ := hw
  cases hk
  exact ⟨z, H1, I1, rz, hq F1 ι1 H1 z Ext.refl rl1 rv1⟩

/-! ### a def -/
def startD (n : Nat) (ds : List D) : MP.Env := ds.map some ++ List.replicate (n - ds.length) none
def runBody (s : SS) (n : Nat) (Γ : Calls) (ds : List D) (M : Mem) : R D := match s Γ (startD n ds) M with
  | .ret d M' => .ok d M'
  | .next _ M' => .ok .non M'
  | .exc c fs _ M' => .exc c fs M'
  | _ => .stuck
theorem er_map {K : PySem.W.Frag} {mg : Str → Option Value} {F : Hp} {ι : List Addr} (m : Nat) : ∀ {ds : List D} {vs : List V}, RVs K mg F ι ds vs → ER K mg F ι (ds.map some ++ List.replicate m none) (vs.map some ++ List.replicate m none)
  | _, _, .nil => ⟨by simp, fun i d h => by
      simp only [List.map_nil, List.nil_append] at h
      rw [List.getElem?_replicate] at h
      split at h <;> cases h⟩
  | _, _, .cons (d := d0) (v := v0) (ds := ds) (vs := vs) r t => by
    have ih := er_map m t
    refine ⟨by simpa using ih.1, fun i d h => ?_⟩
    cases i with
    | zero =>
      simp only [List.map_cons, List.cons_append, List.getElem?_cons_zero, Option.some.injEq] at h
      subst h
      exact ⟨v0, rfl, r⟩
    | succ i =>
      simp only [List.map_cons, List.cons_append, List.getElem?_cons_succ] at h ⊢
      exact ih.2 i d h
theorem er_start {K : PySem.W.Frag} {mg : Str → Option Value} {F : Hp} {ι : List Addr} {N : List Str} {ds : List D} {vs : List V} (r : RVs K mg F ι ds vs) : ER K mg F ι (startD N.length ds) (L2.start N vs) := by
  unfold startD L2.start
  rw [r.len]
  exact er_map _ r
abbrev WD (E : XK) : WX := fun cls d _ H => E cls d H
end

section
variable {P : Program} {w : World} {K : PySem.W.Frag} {mg : Str → Option Value} {base : Heap} {Γ : Calls}
theorem body_ok {N : List Str} {sem : SS} {F : Hp} {ι : List Addr} {M : Mem} {H : Hp} {ds : List D} {Q : VK} {E : XK} (h : OkE K mg F ι H (runBody sem N.length Γ ds M) Q E) :
    OkS K mg F ι H (sem Γ (startD N.length ds) M) { nx := fun _ H' => Q .non H', rt := Q } (WD E) := by
  unfold runBody at h
  generalize sem Γ (startD N.length ds) M = r at h ⊢
  cases r with
  | next ρ M' => exact fun F' ι' H' σ x rl er => h F' ι' H' .non x rl .non
  | ret d M' => exact fun F' ι' H' v x rl rv => h F' ι' H' v x rl rv
  | exc c fs ρ M' => exact fun F' ι' H' σ C d x rl er hc hx => h F' ι' H' C d x rl hc hx
  | brk _ _ => exact h.elim
  | cnt _ _ => exact h.elim
  | stuck => exact h.elim
/-- a def of the text, by what its body does -/
theorem fn_ok {x qual : Str} {st : Stmt} {f : Addr} {fd : FuncData} {N ps : List Str} {k : Nat} {sem : SS} (Fu : Fun K x qual st f fd) (S : FnScope N ps (defScope st)) (hb : Binds K fd ps []) (hfn : PySem.W.isFn K (.ref f) = true)
    (body : ∀ (cdv : Value) (A : Around) (outer : List PySem.Env) (s : Shared) (H : Hp) (E : XK), Room k (A.deeper (PyProof.Rows.envOfC qual (defScope st) s.heap.objs.size f cdv)) →
      SSs (cxOf (L2.CX P w) P w K mg base N qual (defScope st) f cdv A outer s H E) (WD E) Γ (defBody st) sem) : Fn P w K mg base (k + 1) f ps.length (runBody sem N.length Γ) := by
  refine ⟨⟨fd, ps, Fu.okX S (fun vs H Q E h => h.1) (fun cdv A outer s H vs Q E hr h => ?_), hb, rfl⟩, Fu.kp, hfn⟩
  obtain ⟨hl, F, ι, M, ds, rl, rv, h⟩ := h
  obtain ⟨t, p, kk⟩ := body cdv A outer s H E hr
  exact ⟨t, p, kk _ M F ι _ H _ rl (er_start rv) (body_ok h)⟩
theorem fn_stuck {x qual : Str} {st : Stmt} {f : Addr} {fd : FuncData} {ps : List Str} (Fu : Fun K x qual st f fd) (hb : Binds K fd ps []) (hfn : PySem.W.isFn K (.ref f) = true) : Fn P w K mg base 0 f ps.length (fun _ _ => .stuck) :=
  ⟨⟨fd, ps, ⟨fun vs H Q E h => h.1, fun A outer s H args us vs Q E hr he hbd hv h => by obtain ⟨_, _, _, _, _, _, _, h⟩ := h; exact h.elim⟩, hb, rfl⟩, Fu.kp, hfn⟩
/-! ### defs by their levels -/
abbrev Tbl := Nat → Option (SS × Nat)
def lev (T : Tbl) : Nat → Calls
  | 0 => fun _ _ _ => .stuck
  | k + 1 => fun x ds M => match T x with
    | some (s, n) => runBody s n (lev T k) ds M
    | none => .stuck
end
end MP
set_option maxRecDepth 100000
set_option maxHeartbeats 4000000
namespace MP
open PySem L2
section
variable {X : Cx} {W : WX} {Γ : Calls} {e a b o : Expr} {se sa sb so : ES} {pos p : Pos}
theorem se_add (ha : SE X W Γ a sa) (hb : SE X W Γ b sb) : SE X W Γ (.BinOp a .Add b pos) (e2 dAdd sa sb) := se_bin op_add' o2_add ha hb
theorem se_sub (ha : SE X W Γ a sa) (hb : SE X W Γ b sb) : SE X W Γ (.BinOp a .Sub b pos) (e2 dSub sa sb) := se_bin op_sub (o2_I0 fun i j F ι => .int _) ha hb
theorem se_mul (ha : SE X W Γ a sa) (hb : SE X W Γ b sb) : SE X W Γ (.BinOp a .Mult b pos) (e2 dMulI sa sb) := se_bin op_mul (o2_I fun i j F ι => .int _) ha hb
theorem se_div (ha : SE X W Γ a sa) (hb : SE X W Γ b sb) : SE X W Γ (.BinOp a .FloorDiv b pos) (e2 dDiv sa sb) := se_bin op_fdivW (o2_I fun i j F ι => .int _) ha hb
theorem se_mod (ha : SE X W Γ a sa) (hb : SE X W Γ b sb) : SE X W Γ (.BinOp a .Mod b pos) (e2 dMod sa sb) := se_bin op_mod (o2_I fun i j F ι => .int _) ha hb
theorem se_pow (ha : SE X W Γ a sa) (hb : SE X W Γ b sb) : SE X W Γ (.BinOp a .Pow b pos) (e2 dPow sa sb) := se_bin op_pow (o2_I fun i j F ι => .int _) ha hb
def dNeg : Mem → D → Option D := fun _ x => match x with
  | .int i => some (.int (-i))
  | _ => none
def eNeg (a : ES) : ES := fun Γ ρ M => (a Γ ρ M).bind fun x M1 => R.opt (dNeg M1 x) M1
theorem se_neg (ha : SE X W Γ a sa) : SE X W Γ (.UnaryOp .USub a pos) (eNeg sa) := by
  obtain ⟨t, q, k⟩ := ha
  refine ⟨_, pe_un un_neg q, fun ρ M F ι σ H Q rl er h => ?_⟩
  refine k ρ M F ι σ H _ rl er (OkG.bind h |>.imp fun x H1 hx => ?_)
  obtain ⟨d, M1, F1, ι1, x1, rl1, rv1, h1⟩ := hx
  cases rv1 with
  | int i => exact ⟨i, rfl, h1.ok rl1 (.int _)⟩
  | _ => exact h1.elim
theorem se_lt (ha : SE X W Γ a sa) (hb : SE X W Γ b sb) : SE X W Γ (.Compare a [.Lt] [b] pos) (e2 dLt sa sb) := se_cmp op_lt (o2_I0 fun i j F ι => .bl _) ha hb (nomark _)
theorem se_le (ha : SE X W Γ a sa) (hb : SE X W Γ b sb) : SE X W Γ (.Compare a [.LtE] [b] pos) (e2 dLe sa sb) := se_cmp op_le (o2_I0 fun i j F ι => .bl _) ha hb (nomark _)
theorem se_gt (ha : SE X W Γ a sa) (hb : SE X W Γ b sb) : SE X W Γ (.Compare a [.Gt] [b] pos) (e2 dGt sa sb) := se_cmp op_gt (o2_I0 fun i j F ι => .bl _) ha hb (nomark _)
theorem se_ge (ha : SE X W Γ a sa) (hb : SE X W Γ b sb) : SE X W Γ (.Compare a [.GtE] [b] pos) (e2 dGe sa sb) := se_cmp op_ge (o2_I0 fun i j F ι => .bl _) ha hb (nomark _)
theorem se_eq (hu : X.A.units + 64 < cLine) (ha : SE X W Γ a sa) (hb : SE X W Γ b sb) : SE X W Γ (.Compare a [.Eq] [b] pos) (e2 dEq sa sb) := se_cmp (op_eq' hu) o2_eq ha hb (nomark _)
theorem se_ne (hu : X.A.units + 64 < cLine) (ha : SE X W Γ a sa) (hb : SE X W Γ b sb) : SE X W Γ (.Compare a [.NotEq] [b] pos) (e2 dNe sa sb) := se_cmp (op_ne' hu) o2_ne ha hb (nomark _)
theorem se_isN (ha : SE X W Γ a sa) (hb : SE X W Γ b sb) : SE X W Γ (.Compare a [.Is] [b] pos) (e2 dIsN sa sb) := se_cmp op_isN' o2_isN ha hb (nomark _)
theorem se_notN (ha : SE X W Γ a sa) (hb : SE X W Γ b sb) : SE X W Γ (.Compare a [.IsNot] [b] pos) (e2 dNotN sa sb) := se_cmp op_notN' o2_notN ha hb (nomark _)
theorem st_lt (ha : SE X W Γ a sa) (hb : SE X W Γ b sb) : ST X W Γ (.Compare a [.Lt] [b] pos) (tVal (e2 dLt sa sb)) := st_cmp op_lt (o2_I0 fun i j F ι => .bl _) ha hb (nomark _)
theorem st_le (ha : SE X W Γ a sa) (hb : SE X W Γ b sb) : ST X W Γ (.Compare a [.LtE] [b] pos) (tVal (e2 dLe sa sb)) := st_cmp op_le (o2_I0 fun i j F ι => .bl _) ha hb (nomark _)
theorem st_gt (ha : SE X W Γ a sa) (hb : SE X W Γ b sb) : ST X W Γ (.Compare a [.Gt] [b] pos) (tVal (e2 dGt sa sb)) := st_cmp op_gt (o2_I0 fun i j F ι => .bl _) ha hb (nomark _)
theorem st_ge (ha : SE X W Γ a sa) (hb : SE X W Γ b sb) : ST X W Γ (.Compare a [.GtE] [b] pos) (tVal (e2 dGe sa sb)) := st_cmp op_ge (o2_I0 fun i j F ι => .bl _) ha hb (nomark _)
theorem st_eq (hu : X.A.units + 64 < cLine) (ha : SE X W Γ a sa) (hb : SE X W Γ b sb) : ST X W Γ (.Compare a [.Eq] [b] pos) (tVal (e2 dEq sa sb)) := st_cmp (op_eq' hu) o2_eq ha hb (nomark _)
theorem st_ne (hu : X.A.units + 64 < cLine) (ha : SE X W Γ a sa) (hb : SE X W Γ b sb) : ST X W Γ (.Compare a [.NotEq] [b] pos) (tVal (e2 dNe sa sb)) := st_cmp (op_ne' hu) o2_ne ha hb (nomark _)
theorem st_isN (ha : SE X W Γ a sa) (hb : SE X W Γ b sb) : ST X W Γ (.Compare a [.Is] [b] pos) (tVal (e2 dIsN sa sb)) := st_cmp op_isN' o2_isN ha hb (nomark _)
theorem st_notN (ha : SE X W Γ a sa) (hb : SE X W Γ b sb) : ST X W Γ (.Compare a [.IsNot] [b] pos) (tVal (e2 dNotN sa sb)) := st_cmp op_notN' o2_notN ha hb (nomark _)
theorem se_item (ha : SE X W Γ a sa) (hb : SE X W Γ b sb) (hs : PlainIx b := by intro _ _; rfl) : SE X W Γ (.Subscript a b pos) (e2 dIx sa sb) := se_ix ix_seq o2_ix ha hb hs
theorem o2_ipA {K : PySem.W.Frag} {mg : Str → Option Value} : O2 K mg (ipI fun i j => i + j) dAddI := o2_I0 fun i j F ι => .int _
theorem o2_ipS {K : PySem.W.Frag} {mg : Str → Option Value} : O2 K mg (ipI fun i j => i - j) dSub := o2_I0 fun i j F ι => .int _
end
section
variable {X : Cx} {W : WX} {Γ : Calls} {a : Expr} {es : List Expr} {sr : AS} {pos p : Pos}
theorem boot_sum' : bootBuiltins "sum" = some (.builtin "sum") := by decide +kernel
theorem boot_max' : bootBuiltins "max" = some (.builtin "max") := by decide +kernel
theorem boot_abs' : bootBuiltins "abs" = some (.builtin "abs") := by decide +kernel
theorem boot_all' : bootBuiltins "all" = some (.builtin "all") := by decide +kernel
theorem boot_any' : bootBuiltins "any" = some (.builtin "any") := by decide +kernel
theorem boot_len' : bootBuiltins "len" = some (.builtin "len") := by decide +kernel
theorem boot_repr' : bootBuiltins "repr" = some (.builtin "repr") := by decide +kernel
theorem boot_int' : bootBuiltins "int" = some (.type "int") := by decide +kernel
theorem boot_str' : bootBuiltins "str" = some (.type "str") := by decide +kernel
theorem boot_bool' : bootBuiltins "bool" = some (.type "bool") := by decide +kernel
theorem boot_tuple' : bootBuiltins "tuple" = some (.type "tuple") := by decide +kernel
theorem boot_list' : bootBuiltins "list" = some (.type "list") := by decide +kernel
theorem se_len (hm : X.mg "len" = none) (ha : SA X W Γ [a] sr) (hg : Gl X "len" := by rfl) (he : starEach [a] X.env = (false, eval a X.env) :: starEach [] X.env := by rfl) (hpl : (backTo pos (starEach [] X.env)).any (·.1) = false := by rfl) : SE X W Γ (.Call (.Name "len" p) [a] [] pos) (eB dLen sr) := se_callB call_len o1_len hm boot_len' ha hg (by decide) (by decide) he hpl
theorem se_abs (hm : X.mg "abs" = none) (ha : SA X W Γ [a] sr) (hg : Gl X "abs" := by rfl) (he : starEach [a] X.env = (false, eval a X.env) :: starEach [] X.env := by rfl) (hpl : (backTo pos (starEach [] X.env)).any (·.1) = false := by rfl) : SE X W Γ (.Call (.Name "abs" p) [a] [] pos) (eB dAbs sr) := se_callB call_abs o1_abs hm boot_abs' ha hg (by decide) (by decide) he hpl
theorem se_sum (hc : X.calm = true) (hm : X.mg "sum" = none) (ha : SA X W Γ [a] sr) (hg : Gl X "sum" := by rfl) (he : starEach [a] X.env = (false, eval a X.env) :: starEach [] X.env := by rfl) (hpl : (backTo pos (starEach [] X.env)).any (·.1) = false := by rfl) : SE X W Γ (.Call (.Name "sum" p) [a] [] pos) (eB dSum sr) := se_callB (cr_sum hc) o1_sum hm boot_sum' ha hg (by decide) (by decide) he hpl
theorem se_max (hc : X.calm = true) (hm : X.mg "max" = none) (ha : SA X W Γ [a] sr) (hg : Gl X "max" := by rfl) (he : starEach [a] X.env = (false, eval a X.env) :: starEach [] X.env := by rfl) (hpl : (backTo pos (starEach [] X.env)).any (·.1) = false := by rfl) : SE X W Γ (.Call (.Name "max" p) [a] [] pos) (eB dMaxL sr) := se_callB (cr_max hc) o1_maxL hm boot_max' ha hg (by decide) (by decide) he hpl
theorem se_all (hc : X.calm = true) (hm : X.mg "all" = none) (ha : SA X W Γ [a] sr) (hg : Gl X "all" := by rfl) (he : starEach [a] X.env = (false, eval a X.env) :: starEach [] X.env := by rfl) (hpl : (backTo pos (starEach [] X.env)).any (·.1) = false := by rfl) : SE X W Γ (.Call (.Name "all" p) [a] [] pos) (eB dAll sr) := se_callB (cr_all hc) o1_all hm boot_all' ha hg (by decide) (by decide) he hpl
theorem se_any (hc : X.calm = true) (hm : X.mg "any" = none) (ha : SA X W Γ [a] sr) (hg : Gl X "any" := by rfl) (he : starEach [a] X.env = (false, eval a X.env) :: starEach [] X.env := by rfl) (hpl : (backTo pos (starEach [] X.env)).any (·.1) = false := by rfl) : SE X W Γ (.Call (.Name "any" p) [a] [] pos) (eB dAny sr) := se_callB (cr_any hc) o1_any hm boot_any' ha hg (by decide) (by decide) he hpl
theorem se_int' (hm : X.mg "int" = none) (ha : SA X W Γ [a] sr) (hg : Gl X "int" := by rfl) (he : starEach [a] X.env = (false, eval a X.env) :: starEach [] X.env := by rfl) (hpl : (backTo pos (starEach [] X.env)).any (·.1) = false := by rfl) : SE X W Γ (.Call (.Name "int" p) [a] [] pos) (eB dInt sr) := se_callTy call_int1 o1_int hm boot_int' ha hg (by decide) (by decide) he hpl
theorem se_tuple (hm : X.mg "tuple" = none) (ha : SA X W Γ [a] sr) (hg : Gl X "tuple" := by rfl) (he : starEach [a] X.env = (false, eval a X.env) :: starEach [] X.env := by rfl) (hpl : (backTo pos (starEach [] X.env)).any (·.1) = false := by rfl) : SE X W Γ (.Call (.Name "tuple" p) [a] [] pos) (eB dTuple sr) := se_callTy call_tuple_of o1_tuple hm boot_tuple' ha hg (by decide) (by decide) he hpl
theorem se_list (hm : X.mg "list" = none) (ha : SA X W Γ [a] sr) (hg : Gl X "list" := by rfl) (he : starEach [a] X.env = (false, eval a X.env) :: starEach [] X.env := by rfl) (hpl : (backTo pos (starEach [] X.env)).any (·.1) = false := by rfl) : SE X W Γ (.Call (.Name "list" p) [a] [] pos) (eB dList sr) := se_callTy call_list_of o1_list hm boot_list' ha hg (by decide) (by decide) he hpl
/-- str of a text -/
def dStr := f1 fun _ x => match x with
  | .str z => some (.str z)
  | .int i => if i.natAbs.log2 < 1920 then some (.str (toString i)) else none
  | _ => none
end
end MP
set_option maxRecDepth 100000
set_option maxHeartbeats 4000000
namespace MP
open PySem L2
section
variable {P : Program} {w : World} {K : PySem.W.Frag} {mg : Str → Option Value} {base : Heap} {Γ : Calls}
/-! ### a def with defaults -/
theorem fnOk_D {x qual : Str} {st : Stmt} {f : Addr} {fd : FuncData} {N ps : List Str} {dvs : List V} {k : Nat} {sem : SS} (Fu : FunD K x qual (defArgs st) (defBody st) (defScope st) dvs [] f fd) (S : FnScope N ps (defScope st))
    (body : ∀ (cdv : Value) (A : Around) (outer : List PySem.Env) (s : Shared) (H : Hp) (E : XK), Room k (A.deeper (PyProof.Rows.envOfC qual (defScope st) s.heap.objs.size f cdv)) →
      SSs (cxOf (L2.CX P w) P w K mg base N qual (defScope st) f cdv A outer s H E) (WD E) Γ (defBody st) sem) : FnOk P w K mg base (L2.CX P w) (k + 1) f fd ps (spI K mg (runBody sem N.length Γ) ps.length) := by
  refine Fu.ok S (fun vs H Q E h => h.1) (fun cdv A outer s H vs Q E hr h => ?_)
  obtain ⟨hl, F, ι, M, ds, rl, rv, h⟩ := h
  obtain ⟨t, p, kk⟩ := body cdv A outer s H E hr
  exact ⟨t, p, kk _ M F ι _ H _ rl (er_start rv) (body_ok h)⟩
theorem fnOk_0 {f : Addr} {fd : FuncData} {ps : List Str} : FnOk P w K mg base (L2.CX P w) 0 f fd ps (spI K mg (fun _ _ => .stuck) ps.length) :=
  ⟨fun vs H Q E h => h.1, fun A outer s H args us vs Q E hr he hbd hv h => by obtain ⟨_, _, _, _, _, _, _, h⟩ := h; exact h.elim⟩
theorem fn_D {f : Addr} {fd : FuncData} {ps : List Str} {k : Nat} {g : List D → Mem → R D} (h : FnOk P w K mg base (L2.CX P w) k f fd ps (spI K mg g ps.length)) (hb : ∃ ds, Vals [] ds ∧ Binds K fd ps ds) (kp : PySem.W.keepIn K (.ref f) = true) (hfn : PySem.W.isFn K (.ref f) = true) : Fn P w K mg base k f ps.length g := by
  obtain ⟨ds, hv, hb⟩ := hb
  cases hv
  exact ⟨⟨fd, ps, h, hb, rfl⟩, kp, hfn⟩
theorem fnD_D {f : Addr} {fd : FuncData} {ps : List Str} {k n : Nat} {g : List D → Mem → R D} {dv : List D} {dvs : List V} (h : FnOk P w K mg base (L2.CX P w) k f fd ps (spI K mg g ps.length)) (hb : ∃ ds, Vals dvs ds ∧ Binds K fd ps ds) (kp : PySem.W.keepIn K (.ref f) = true) (hd : ∀ F ι, RVs K mg F ι dv dvs) (hn : ps.length = n + dv.length) :
    FnD P w K mg base k f n dv g := by
  obtain ⟨ds, hv, hb⟩ := hb
  exact ⟨⟨fd, ps, dvs, ds, hn ▸ h, hb, hv, hd, hn⟩, kp⟩
end
section
variable {X : Cx} {W : WX} {Γ : Calls} {a : Expr} {es : List Expr} {sr : AS} {pos p : Pos}
def dStrS := f1 fun _ x => match x with
  | .str z => some (.str z)
  | _ => none
theorem o1_strS {K : PySem.W.Frag} {mg : Str → Option Value} : O1 K mg (fun xs H Q => ∃ a, xs = [.str a] ∧ Q (.str a) H) dStrS := by
  intro F ι M H Q x z u rl rx e k
  replace e := f1_some e
  obtain ⟨d, rfl, e⟩ := e
  obtain ⟨v, rfl, rv⟩ := rx.one
  cases rv <;> cases e
  exact ⟨_, rfl, q_fin k rl (.str _)⟩
theorem se_strS (hm : X.mg "str" = none) (ha : SA X W Γ [a] sr) (hg : Gl X "str" := by rfl) (he : starEach [a] X.env = (false, eval a X.env) :: starEach [] X.env := by rfl) (hpl : (backTo pos (starEach [] X.env)).any (·.1) = false := by rfl) : SE X W Γ (.Call (.Name "str" p) [a] [] pos) (eB dStrS sr) := se_callTy SkE.call_str_str o1_strS hm boot_str' ha hg (by decide) (by decide) he hpl
end
/-! ### what the top has written, by defs -/
structure FunB (K : PySem.W.Frag) (x qual : Str) (st : Stmt) (f : Addr) (ps : List Str) : Prop where
  ex : ∃ fd : FuncData, Fun K x qual st f fd ∧ Binds K fd ps []
  fn : PySem.W.isFn K (.ref f) = true
structure FunDB (K : PySem.W.Frag) (x qual : Str) (st : Stmt) (f : Addr) (ps : List Str) (dvs : List V) : Prop where
  ex : ∃ fd : FuncData, FunD K x qual (defArgs st) (defBody st) (defScope st) dvs [] f fd ∧ (∃ ds, Vals [] ds ∧ Binds K fd ps ds) ∧ (∃ ds, Vals dvs ds ∧ Binds K fd ps ds)
  fn : PySem.W.isFn K (.ref f) = true
section
variable {P : Program} {w : World} {K : PySem.W.Frag} {mg : Str → Option Value} {base : Heap} {Γ : Calls} {x qual : Str} {st : Stmt} {f : Addr} {N ps : List Str} {dvs : List V} {k : Nat} {sem : SS}
theorem fn_okB (u : FunB K x qual st f ps) (S : FnScope N ps (defScope st)) (body : ∀ (cdv : Value) (A : Around) (outer : List PySem.Env) (s : Shared) (H : Hp) (E : XK), Room k (A.deeper (PyProof.Rows.envOfC qual (defScope st) s.heap.objs.size f cdv)) →
      SSs (cxOf (L2.CX P w) P w K mg base N qual (defScope st) f cdv A outer s H E) (WD E) Γ (defBody st) sem) : Fn P w K mg base (k + 1) f ps.length (runBody sem N.length Γ) := by
  obtain ⟨fd, F, b⟩ := u.ex
  exact fn_ok F S b u.fn body
theorem fn_stB (u : FunB K x qual st f ps) : Fn P w K mg base 0 f ps.length (fun _ _ => .stuck) := by
  obtain ⟨fd, F, b⟩ := u.ex
  exact fn_stuck F b u.fn
theorem fn_okDB (u : FunDB K x qual st f ps dvs) (S : FnScope N ps (defScope st)) (body : ∀ (cdv : Value) (A : Around) (outer : List PySem.Env) (s : Shared) (H : Hp) (E : XK), Room k (A.deeper (PyProof.Rows.envOfC qual (defScope st) s.heap.objs.size f cdv)) →
      SSs (cxOf (L2.CX P w) P w K mg base N qual (defScope st) f cdv A outer s H E) (WD E) Γ (defBody st) sem) : Fn P w K mg base (k + 1) f ps.length (runBody sem N.length Γ) := by
  obtain ⟨fd, F, b, b2⟩ := u.ex
  exact fn_D (fnOk_D F S body) b F.kp u.fn
theorem fn_stDB (u : FunDB K x qual st f ps dvs) : Fn P w K mg base 0 f ps.length (fun _ _ => .stuck) := by
  obtain ⟨fd, F, b, b2⟩ := u.ex
  exact fn_D fnOk_0 b F.kp u.fn
theorem fnD_okDB {n : Nat} {dv : List D} (u : FunDB K x qual st f ps dvs) (S : FnScope N ps (defScope st)) (hd : ∀ F ι, RVs K mg F ι dv dvs) (hn : ps.length = n + dv.length) (body : ∀ (cdv : Value) (A : Around) (outer : List PySem.Env) (s : Shared) (H : Hp) (E : XK), Room k (A.deeper (PyProof.Rows.envOfC qual (defScope st) s.heap.objs.size f cdv)) →
      SSs (cxOf (L2.CX P w) P w K mg base N qual (defScope st) f cdv A outer s H E) (WD E) Γ (defBody st) sem) : FnD P w K mg base (k + 1) f n dv (runBody sem N.length Γ) := by
  obtain ⟨fd, F, b, b2⟩ := u.ex
  exact fnD_D (fnOk_D F S body) b2 F.kp hd hn
theorem fnD_stDB {n : Nat} {dv : List D} (u : FunDB K x qual st f ps dvs) (hd : ∀ F ι, RVs K mg F ι dv dvs) (hn : ps.length = n + dv.length) : FnD P w K mg base 0 f n dv (fun _ _ => .stuck) := by
  obtain ⟨fd, F, b, b2⟩ := u.ex
  exact fnD_D fnOk_0 b2 F.kp hd hn
theorem fld1 {c f : Str} {C : Addr} (hC : mg c = some (.ref C)) (cl : Cls K C) (n : NoAttr K C f) : FldOk K mg [c] f := fun c' h C' e => by
  rw [List.mem_singleton.mp h, hC] at e
  cases e
  exact ⟨cl, n⟩
theorem all7 {p : String → Prop} (h1 : p "NoneType") (h2 : p "bool") (h3 : p "int") (h4 : p "str") (h5 : p "tuple") (h6 : p "list") (h7 : p "dict") : ∀ S ∈ ["NoneType", "bool", "int", "str", "tuple", "list", "dict"], p S := by
  intro S h
  simp only [List.mem_cons, List.not_mem_nil, or_false] at h
  rcases h with rfl | rfl | rfl | rfl | rfl | rfl | rfl <;> assumption
theorem gint {x : Str} {i : Int} {t : Tok} (h : mg x = some (.int i t)) : ∃ v u, mg x = some u ∧ RelV v u ∧ ∀ F ι, RV K mg F ι (.int i) v := ⟨.int i, _, h, ⟨t, rfl⟩, fun F ι => .int i⟩
theorem gstr {x : Str} {i : Str} {t : Tok} (h : mg x = some (.str i t)) : ∃ v u, mg x = some u ∧ RelV v u ∧ ∀ F ι, RV K mg F ι (.str i) v := ⟨.str i, _, h, ⟨t, rfl⟩, fun F ι => .str i⟩
end
end MP
set_option maxRecDepth 100000
set_option maxHeartbeats 4000000
namespace MP
open PySem L2
section
variable {P : Program} {w : World} {K : PySem.W.Frag} {mg : Str → Option Value} {base : Heap} {Γ : Calls} {x qual : Str} {st : Stmt} {f : Addr} {fd : FuncData} {N ps : List Str} {k : Nat} {sem : SS}
theorem fn_okF (Fu : Fun K x qual st f fd) (S : FnScope N ps (defScope st)) (body : ∀ (cdv : Value) (A : Around) (outer : List PySem.Env) (s : Shared) (H : Hp) (E : XK), Room k (A.deeper (PyProof.Rows.envOfC qual (defScope st) s.heap.objs.size f cdv)) →
      SSs (cxOf (L2.CX P w) P w K mg base N qual (defScope st) f cdv A outer s H E) (WD E) Γ (defBody st) sem) : FnOk P w K mg base (L2.CX P w) (k + 1) f fd ps (spI K mg (runBody sem N.length Γ) ps.length) := by
  refine Fu.okX S (fun vs H Q E h => h.1) (fun cdv A outer s H vs Q E hr h => ?_)
  obtain ⟨hl, F, ι, M, ds, rl, rv, h⟩ := h
  obtain ⟨t, p, kk⟩ := body cdv A outer s H E hr
  exact ⟨t, p, kk _ M F ι _ H _ rl (er_start rv) (body_ok h)⟩
def spL (K : PySem.W.Frag) : Sp := fun vs H Q _ => ∃ (a : Addr) (ns : List Int), vs = [.ref a] ∧ SqL K H a (ns.map V.int) ∧ ns.length ≤ 63 ∧ ∀ H', Q (.bl true) H'
/-- the law as a question of data -/
def Holds63 (g : List D → Mem → R D) : Prop := ∀ ns : List Int, ns.length ≤ 63 → ∃ M, g [.scr (ns.map D.int)] [] = .ok (.bl true) M
theorem spL_I {g : List D → Mem → R D} (hg : Holds63 g) : ∀ vs H Q E, spL K vs H Q E → spI K mg g 1 vs H Q E := by
  intro vs H Q E h
  obtain ⟨a, ns, rfl, hS, hl, hQ⟩ := h
  obtain ⟨M, e⟩ := hg ns hl
  refine ⟨rfl, H, [], [], [.scr (ns.map D.int)], ⟨fun _ _ q => q, List.nodup_nil, rfl, fun _ q => by simp at q, fun k mo q => by simp at q⟩, .cons (.scr hS (RVs.of_ints ns)) .nil, ?_⟩
  rw [e]
  intro F' ι' H' v x rl rv
  cases rv
  exact hQ H'
end
theorem walkL {l : PySem.W.OpenLaw} {k : Nat} {q : Program} {loose : List Str} {XP : (Str → Option Value) → Heap → Prop} {YP : World → Heap → Prop} {d : DefRec} {K : Params → PySem.W.Frag} (hn : l.most = some 63) (hdf : d.params.defaults = []) (hr : Room k callerA)
    (hY : ∀ (w : World) (h : Heap), YP w h → (K w.params).In h)
    (F : ∀ (w : World) (mg : Str → Option Value) (fa : Addr) (h : Heap), (K w.params).In h → h.Ns mainGlobals mg → mg d.name = some (.ref fa) →
      ∃ fd : FuncData, (∀ (s : Shared) (u : Value), BindsTo s fd ⟨[u], []⟩ [("_law_script", u)]) ∧ ∀ base : Heap, FnOk l.prog w (K w.params) mg base (L2.CX l.prog w) k fa fd ["_law_script"] (spL (K w.params))) :
    PySem.W.WalkO q loose XP YP l.row.toRowW d [] (fun f vs => PySem.call f vs) :=
  L2.walk_of (n := 63) (k := k) (x := "_law_script") (CX := fun w => L2.CX l.prog w) (sp := fun w => spL (K w.params)) hn (by decide) hdf hr hY
    (fun w mg fa h X G e => let ⟨fd, b, z⟩ := F w mg fa h X G e; ⟨fd, b, fun base _ _ => z base⟩)
    (fun _ _ a ns hl _ hS => ⟨a, ns, rfl, hS, hl, fun _ => rfl⟩) fun _ _ _ _ _ z => by
      obtain ⟨_, _, _, _, _, _, _, _, _, _, _, _, h⟩ := z
      exact h
end MP
set_option maxRecDepth 100000
set_option maxHeartbeats 4000000
namespace MP
open PySem L2
/-! ### the meanings, as equations for simp -/
@[simp] theorem bind_ok {α β : Type} (a : α) (M : Mem) (f : α → Mem → R β) : (R.ok a M).bind f = f a M := rfl
@[simp] theorem bind_exc {α β : Type} (c : Str) (fs : List (Str × D)) (M : Mem) (f : α → Mem → R β) : (R.exc c fs M : R α).bind f = .exc c fs M := rfl
@[simp] theorem opt_some {α : Type} (a : α) (M : Mem) : R.opt (some a) M = R.ok a M := rfl
@[simp] theorem toS_ok {α : Type} (ρ : MP.Env) (a : α) (M : Mem) (f : α → Mem → SR) : R.toS ρ (R.ok a M) f = f a M := rfl
@[simp] theorem toS_exc {α : Type} (ρ : MP.Env) (c : Str) (fs : List (Str × D)) (M : Mem) (f : α → Mem → SR) : R.toS ρ (R.exc c fs M) f = .exc c fs ρ M := rfl
def SR.andThen (r : SR) (b : MP.Env → Mem → SR) : SR := match r with
  | .next ρ1 M1 => b ρ1 M1
  | r => r
@[simp] theorem andThen_next (ρ : MP.Env) (M : Mem) (b : MP.Env → Mem → SR) : (SR.next ρ M).andThen b = b ρ M := rfl
@[simp] theorem andThen_ret (d : D) (M : Mem) (b : MP.Env → Mem → SR) : (SR.ret d M).andThen b = .ret d M := rfl
@[simp] theorem andThen_brk (ρ : MP.Env) (M : Mem) (b : MP.Env → Mem → SR) : (SR.brk ρ M).andThen b = .brk ρ M := rfl
@[simp] theorem andThen_cnt (ρ : MP.Env) (M : Mem) (b : MP.Env → Mem → SR) : (SR.cnt ρ M).andThen b = .cnt ρ M := rfl
@[simp] theorem andThen_exc (c : Str) (fs : List (Str × D)) (ρ : MP.Env) (M : Mem) (b : MP.Env → Mem → SR) : (SR.exc c fs ρ M).andThen b = .exc c fs ρ M := rfl
def SR.fin (r : SR) : R D := match r with
  | .ret d M' => .ok d M'
  | .next _ M' => .ok .non M'
  | .exc c fs _ M' => .exc c fs M'
  | _ => .stuck
@[simp] theorem fin_ret (d : D) (M : Mem) : (SR.ret d M).fin = .ok d M := rfl
@[simp] theorem fin_next (ρ : MP.Env) (M : Mem) : (SR.next ρ M).fin = .ok .non M := rfl
@[simp] theorem fin_exc (c : Str) (fs : List (Str × D)) (ρ : MP.Env) (M : Mem) : (SR.exc c fs ρ M).fin = .exc c fs M := rfl
def SR.loop (r : SR) (b : MP.Env → Mem → SR) : SR := match r with
  | .next ρ2 M2 => b ρ2 M2
  | .cnt ρ2 M2 => b ρ2 M2
  | .brk ρ2 M2 => .next ρ2 M2
  | r => r
@[simp] theorem loop_next (ρ : MP.Env) (M : Mem) (b : MP.Env → Mem → SR) : (SR.next ρ M).loop b = b ρ M := rfl
@[simp] theorem loop_cnt (ρ : MP.Env) (M : Mem) (b : MP.Env → Mem → SR) : (SR.cnt ρ M).loop b = b ρ M := rfl
@[simp] theorem loop_brk (ρ : MP.Env) (M : Mem) (b : MP.Env → Mem → SR) : (SR.brk ρ M).loop b = .next ρ M := rfl
@[simp] theorem loop_ret (d : D) (M : Mem) (b : MP.Env → Mem → SR) : (SR.ret d M).loop b = .ret d M := rfl
@[simp] theorem loop_exc (c : Str) (fs : List (Str × D)) (ρ : MP.Env) (M : Mem) (b : MP.Env → Mem → SR) : (SR.exc c fs ρ M).loop b = .exc c fs ρ M := rfl
section
variable (Γ : Calls) (ρ : MP.Env) (M : Mem)
theorem body_eq (s : SS) (n : Nat) (ds : List D) : runBody s n Γ ds M = (s Γ (startD n ds) M).fin := rfl
@[simp] theorem startD_eq (n : Nat) (ds : List D) : startD n ds = ds.map some ++ List.replicate (n - ds.length) none := rfl
@[simp] theorem x_seq (a b : SS) : sSeq a b Γ ρ M = (a Γ ρ M).andThen (b Γ) := by
  unfold sSeq SR.andThen
  cases a Γ ρ M <;> rfl
@[simp] theorem x_nil : sNil Γ ρ M = .next ρ M := rfl
@[simp] theorem x_ret (a : ES) : sRet a Γ ρ M = (a Γ ρ M).toS ρ SR.ret := rfl
@[simp] theorem x_retN : sRetN Γ ρ M = .ret .non M := rfl
@[simp] theorem x_break : sBreak Γ ρ M = .brk ρ M := rfl
@[simp] theorem x_cont : sCont Γ ρ M = .cnt ρ M := rfl
def kExpr (ρ : MP.Env) (_ : D) (M : Mem) : SR := .next ρ M
@[simp] theorem kExpr_eq (d : D) : kExpr ρ d M = .next ρ M := rfl
@[simp] theorem x_expr (a : ES) : sExpr a Γ ρ M = (a Γ ρ M).toS ρ (kExpr ρ) := rfl
def kSIf (a b : SS) (Γ : Calls) (ρ : MP.Env) (k : Bool) (M : Mem) : SR := if k = true then a Γ ρ M else b Γ ρ M
@[simp] theorem kSIf_t (a b : SS) : kSIf a b Γ ρ true M = a Γ ρ M := rfl
@[simp] theorem kSIf_f (a b : SS) : kSIf a b Γ ρ false M = b Γ ρ M := rfl
@[simp] theorem x_if (t : TSm) (a b : SS) : sIf t a b Γ ρ M = (t Γ ρ M).toS ρ (kSIf a b Γ ρ) := rfl
def asgG (ρ : Option MP.Env) (M : Mem) : SR := match ρ with
  | some ρ1 => .next ρ1 M
  | none => .stuck
@[simp] theorem asgG_some (ρ : MP.Env) (M : Mem) : asgG (some ρ) M = .next ρ M := rfl
def kAsg (g : GS) (ρ : MP.Env) (d : D) (M : Mem) : SR := asgG (g M d ρ) M
@[simp] theorem kAsg_eq (g : GS) (d : D) : kAsg g ρ d M = asgG (g M d ρ) M := rfl
@[simp] theorem x_asg (a : ES) (g : GS) : sAsg a g Γ ρ M = (a Γ ρ M).toS ρ (kAsg g ρ) := by
  unfold sAsg kAsg asgG
  rfl
def kPar1 (i j : Nat) (ρ : MP.Env) (v w : D) (M : Mem) : SR := .next ((ρ.set i (some v)).set j (some w)) M
@[simp] theorem kPar1_eq (i j : Nat) (v w : D) : kPar1 i j ρ v w M = .next ((ρ.set i (some v)).set j (some w)) M := rfl
def kPar (i j : Nat) (b : ES) (Γ : Calls) (ρ : MP.Env) (v : D) (M : Mem) : SR := (b Γ ρ M).toS ρ (kPar1 i j ρ v)
@[simp] theorem kPar_eq (i j : Nat) (b : ES) (v : D) : kPar i j b Γ ρ v M = (b Γ ρ M).toS ρ (kPar1 i j ρ v) := rfl
@[simp] theorem x_par (i j : Nat) (a b : ES) : sPar i j (aCons a (aCons b aNil)) Γ ρ M = (a Γ ρ M).toS ρ (kPar i j b Γ ρ) := by
  unfold sPar aCons aNil kPar
  cases a Γ ρ M with
  | ok x M1 =>
    show R.toS ρ (R.bind (R.bind (b Γ ρ M1) _) _) _ = R.toS ρ (b Γ ρ M1) _
    cases b Γ ρ M1 <;> rfl
  | _ => rfl
def ofo (o : Option (Option D)) (M : Mem) : R D := match o with
  | some (some d) => .ok d M
  | _ => .stuck
@[simp] theorem ofo_some (d : D) : ofo (some (some d)) M = .ok d M := rfl
@[simp] theorem x_var (i : Nat) : eVar i Γ ρ M = ofo ρ[i]? M := rfl
@[simp] theorem x_c (d : D) : eC d Γ ρ M = .ok d M := rfl
def kOp1 (f : Mem → D → D → Option D) (x y : D) (M : Mem) : R D := R.opt (f M x y) M
@[simp] theorem kOp1_eq (f : Mem → D → D → Option D) (x y : D) : kOp1 f x y M = R.opt (f M x y) M := rfl
def kOp (f : Mem → D → D → Option D) (b : ES) (Γ : Calls) (ρ : MP.Env) (x : D) (M : Mem) : R D := (b Γ ρ M).bind (kOp1 f x)
@[simp] theorem kOp_eq (f : Mem → D → D → Option D) (b : ES) (x : D) : kOp f b Γ ρ x M = (b Γ ρ M).bind (kOp1 f x) := rfl
@[simp] theorem x_e2 (f : Mem → D → D → Option D) (a b : ES) : e2 f a b Γ ρ M = (a Γ ρ M).bind (kOp f b Γ ρ) := rfl
def kF (f : Mem → D → Option D) (x : D) (M : Mem) : R D := R.opt (f M x) M
@[simp] theorem kF_eq (f : Mem → D → Option D) (x : D) : kF f x M = R.opt (f M x) M := rfl
@[simp] theorem x_neg (a : ES) : eNeg a Γ ρ M = (a Γ ρ M).bind (kF dNeg) := rfl
@[simp] theorem x_aNil : aNil Γ ρ M = .ok [] M := rfl
def kC1 (x : D) (xs : List D) (M : Mem) : R (List D) := .ok (x :: xs) M
@[simp] theorem kC1_eq (x : D) (xs : List D) : kC1 x xs M = .ok (x :: xs) M := rfl
def kC (r : AS) (Γ : Calls) (ρ : MP.Env) (x : D) (M : Mem) : R (List D) := (r Γ ρ M).bind (kC1 x)
@[simp] theorem kC_eq (r : AS) (x : D) : kC r Γ ρ x M = (r Γ ρ M).bind (kC1 x) := rfl
@[simp] theorem x_aCons (a : ES) (r : AS) : aCons a r Γ ρ M = (a Γ ρ M).bind (kC r Γ ρ) := rfl
def kB (f : Mem → List D → Option D) (x : List D) (M : Mem) : R D := R.opt (f M x) M
@[simp] theorem kB_eq (f : Mem → List D → Option D) (x : List D) : kB f x M = R.opt (f M x) M := rfl
@[simp] theorem x_eB (f : Mem → List D → Option D) (a : AS) : eB f a Γ ρ M = (a Γ ρ M).bind (kB f) := rfl
def kTup (xs : List D) (M : Mem) : R D := if xs.length ≤ sizeLine then .ok (.tup xs) M else .stuck
def kLst (xs : List D) (M : Mem) : R D := if xs.length ≤ sizeLine then .ok (.lst xs) M else .stuck
def kLstM (xs : List D) (M : Mem) : R D := if xs.length ≤ sizeLine then .ok (.ref M.length) (M ++ [.lst xs]) else .stuck
theorem kTup_ok {xs : List D} (h : xs.length ≤ sizeLine) : kTup xs M = .ok (.tup xs) M := if_pos h
theorem kLst_ok {xs : List D} (h : xs.length ≤ sizeLine) : kLst xs M = .ok (.lst xs) M := if_pos h
theorem kLstM_ok {xs : List D} (h : xs.length ≤ sizeLine) : kLstM xs M = .ok (.ref M.length) (M ++ [.lst xs]) := if_pos h
@[simp] theorem kTup_0 : kTup [] M = .ok (.tup []) M := rfl
@[simp] theorem kTup_1 (a : D) : kTup [a] M = .ok (.tup [a]) M := rfl
@[simp] theorem kTup_2 (a b : D) : kTup [a, b] M = .ok (.tup [a, b]) M := rfl
@[simp] theorem kTup_3 (a b c : D) : kTup [a, b, c] M = .ok (.tup [a, b, c]) M := rfl
@[simp] theorem kLst_0 : kLst [] M = .ok (.lst []) M := rfl
@[simp] theorem kLst_1 (a : D) : kLst [a] M = .ok (.lst [a]) M := rfl
@[simp] theorem kLst_2 (a b : D) : kLst [a, b] M = .ok (.lst [a, b]) M := rfl
@[simp] theorem kLstM_0 : kLstM [] M = .ok (.ref M.length) (M ++ [.lst []]) := rfl
@[simp] theorem kLstM_4 (a b c d : D) : kLstM [a, b, c, d] M = .ok (.ref M.length) (M ++ [.lst [a, b, c, d]]) := rfl
@[simp] theorem x_tup (a : AS) : eTup a Γ ρ M = (a Γ ρ M).bind kTup := rfl
@[simp] theorem x_lst (a : AS) : eLst a Γ ρ M = (a Γ ρ M).bind kLst := rfl
@[simp] theorem x_lstM (a : AS) : eLstM a Γ ρ M = (a Γ ρ M).bind kLstM := rfl
def blOf (x : D) (M : Mem) : R Bool := match x with
  | .bl k => .ok k M
  | _ => .stuck
@[simp] theorem blOf_bl (k : Bool) : blOf (.bl k) M = .ok k M := rfl
@[simp] theorem x_tVal (a : ES) : tVal a Γ ρ M = (a Γ ρ M).bind blOf := rfl
def kTru (x : D) (M : Mem) : R Bool := R.opt (dTru M x) M
@[simp] theorem kTru_eq (x : D) : kTru x M = R.opt (dTru M x) M := rfl
@[simp] theorem x_tTruth (a : ES) : tTruth a Γ ρ M = (a Γ ρ M).bind kTru := rfl
def kTA (b : TSm) (Γ : Calls) (ρ : MP.Env) (k : Bool) (M : Mem) : R Bool := if k = true then b Γ ρ M else .ok false M
@[simp] theorem kTA_t (b : TSm) : kTA b Γ ρ true M = b Γ ρ M := rfl
@[simp] theorem kTA_f (b : TSm) : kTA b Γ ρ false M = .ok false M := rfl
@[simp] theorem x_tAnd (a b : TSm) : tAnd' a b Γ ρ M = (a Γ ρ M).bind (kTA b Γ ρ) := rfl
def kTO (b : TSm) (Γ : Calls) (ρ : MP.Env) (k : Bool) (M : Mem) : R Bool := if k = true then .ok true M else b Γ ρ M
@[simp] theorem kTO_t (b : TSm) : kTO b Γ ρ true M = .ok true M := rfl
@[simp] theorem kTO_f (b : TSm) : kTO b Γ ρ false M = b Γ ρ M := rfl
@[simp] theorem x_tOr (a b : TSm) : tOr' a b Γ ρ M = (a Γ ρ M).bind (kTO b Γ ρ) := rfl
def kTN (k : Bool) (M : Mem) : R Bool := .ok (!k) M
@[simp] theorem kTN_eq (k : Bool) : kTN k M = .ok (!k) M := rfl
@[simp] theorem x_tNot (a : TSm) : tNot' a Γ ρ M = (a Γ ρ M).bind kTN := rfl
@[simp] theorem x_tYes : tYes' Γ ρ M = .ok true M := rfl
def kEI (a b : ES) (Γ : Calls) (ρ : MP.Env) (k : Bool) (M : Mem) : R D := if k = true then a Γ ρ M else b Γ ρ M
@[simp] theorem kEI_t (a b : ES) : kEI a b Γ ρ true M = a Γ ρ M := rfl
@[simp] theorem kEI_f (a b : ES) : kEI a b Γ ρ false M = b Γ ρ M := rfl
@[simp] theorem x_eIf (t : TSm) (a b : ES) : eIf t a b Γ ρ M = (t Γ ρ M).bind (kEI a b Γ ρ) := rfl
def kEA (b : ES) (Γ : Calls) (ρ : MP.Env) (x : D) (M : Mem) : R D := match x with
  | .bl true => b Γ ρ M
  | .bl false => .ok (.bl false) M
  | _ => .stuck
@[simp] theorem kEA_t (b : ES) : kEA b Γ ρ (.bl true) M = b Γ ρ M := rfl
@[simp] theorem kEA_f (b : ES) : kEA b Γ ρ (.bl false) M = .ok (.bl false) M := rfl
@[simp] theorem x_eAnd (a b : ES) : eAnd a b Γ ρ M = (a Γ ρ M).bind (kEA b Γ ρ) := rfl
def kEO (b : ES) (Γ : Calls) (ρ : MP.Env) (x : D) (M : Mem) : R D := match x with
  | .bl true => .ok (.bl true) M
  | .bl false => b Γ ρ M
  | _ => .stuck
@[simp] theorem kEO_t (b : ES) : kEO b Γ ρ (.bl true) M = .ok (.bl true) M := rfl
@[simp] theorem kEO_f (b : ES) : kEO b Γ ρ (.bl false) M = b Γ ρ M := rfl
@[simp] theorem x_eOr (a b : ES) : eOr a b Γ ρ M = (a Γ ρ M).bind (kEO b Γ ρ) := rfl
def kEN (x : D) (M : Mem) : R D := match x with
  | .bl k => .ok (.bl (!k)) M
  | _ => .stuck
@[simp] theorem kEN_bl (k : Bool) : kEN (.bl k) M = .ok (.bl (!k)) M := rfl
@[simp] theorem x_eNot (a : ES) : eNot a Γ ρ M = (a Γ ρ M).bind kEN := rfl
@[simp] theorem x_call (q : Nat) (a : AS) : eCall q a Γ ρ M = (a Γ ρ M).bind (Γ q) := rfl
def kCD (q : Nat) (dv : List D) (Γ : Calls) (ds : List D) (M : Mem) : R D := Γ q (ds ++ dv) M
@[simp] theorem kCD_eq (q : Nat) (dv ds : List D) : kCD q dv Γ ds M = Γ q (ds ++ dv) M := rfl
@[simp] theorem x_callD (q : Nat) (dv : List D) (a : AS) : eCallD q dv a Γ ρ M = (a Γ ρ M).bind (kCD q dv Γ) := rfl
@[simp] theorem x_gN (i : Nat) (d : D) : gN i M d ρ = some (ρ.set i (some d)) := rfl
@[simp] theorem x_gTup2 (g h : GS) (a b : D) : gTupD 2 (gsCons g (gsCons h gsNil')) M (.tup [a, b]) ρ = (g M a ρ).bind fun ρ1 => h M b ρ1 := by
  show (Option.bind (g M a ρ) fun ρ1 => Option.bind (h M b ρ1) fun ρ2 => some ρ2) = _
  cases g M a ρ with
  | none => rfl
  | some ρ1 => show (Option.bind (h M b ρ1) fun ρ2 => some ρ2) = h M b ρ1; cases h M b ρ1 <;> rfl
@[simp] theorem x_fld (cs : List Str) (f : Str) (a : ES) : eFld cs f a Γ ρ M = (a Γ ρ M).bind (kF (dFld cs f)) := rfl
def lcFin (r : R (List D)) : R D := match r with
  | .ok ys M2 => .ok (.lst ys) M2
  | _ => .stuck
def lcFinM (r : R (List D)) : R D := match r with
  | .ok ys M2 => .ok (.ref M2.length) (M2 ++ [.lst ys])
  | _ => .stuck
@[simp] theorem lcFin_ok (ys : List D) : lcFin (.ok ys M) = .ok (.lst ys) M := rfl
@[simp] theorem lcFinM_ok (ys : List D) : lcFinM (.ok ys M) = .ok (.ref M.length) (M ++ [.lst ys]) := rfl
def kLc (g : GS) (t : TSm) (el : ES) (Γ : Calls) (ρ : MP.Env) (ds : List D) (M : Mem) : R D := if ds.length ≤ sizeLine then lcFin (lcL g t el Γ ρ ds M) else .stuck
def kLcM (g : GS) (t : TSm) (el : ES) (Γ : Calls) (ρ : MP.Env) (ds : List D) (M : Mem) : R D := if ds.length ≤ sizeLine then lcFinM (lcL g t el Γ ρ ds M) else .stuck
theorem kLc_eq {g : GS} {t : TSm} {el : ES} {ds ys : List D} {M1 : Mem} (h : ds.length ≤ sizeLine) (e : lcL g t el Γ ρ ds M = .ok ys M1) : kLc g t el Γ ρ ds M = .ok (.lst ys) M1 := by unfold kLc; rw [if_pos h, e]; rfl
theorem kLcM_eq {g : GS} {t : TSm} {el : ES} {ds ys : List D} {M1 : Mem} (h : ds.length ≤ sizeLine) (e : lcL g t el Γ ρ ds M = .ok ys M1) : kLcM g t el Γ ρ ds M = .ok (.ref M1.length) (M1 ++ [.lst ys]) := by unfold kLcM; rw [if_pos h, e]; rfl
@[simp] theorem x_lc (s : AS) (g : GS) (t : TSm) (el : ES) (vs : List Nat) : eLc s g t el vs Γ ρ M = (s Γ ρ M).bind (kLc g t el Γ (wipeD ρ vs)) := rfl
@[simp] theorem x_lcM (s : AS) (g : GS) (t : TSm) (el : ES) (vs : List Nat) : eLcM s g t el vs Γ ρ M = (s Γ ρ M).bind (kLcM g t el Γ (wipeD ρ vs)) := rfl
@[simp] theorem wipe_nil : wipeD ρ [] = ρ := rfl
@[simp] theorem wipe_cons (i : Nat) (vs : List Nat) : wipeD ρ (i :: vs) = (wipeD ρ vs).set i none := rfl
def tupOf (x : D) (M : Mem) : R (List D) := match x with
  | .tup xs => .ok xs M
  | _ => .stuck
@[simp] theorem tupOf_tup (xs : List D) : tupOf (.tup xs) M = .ok xs M := rfl
@[simp] theorem x_aTup (a : ES) : aTup a Γ ρ M = (a Γ ρ M).bind tupOf := rfl
def kFrz (x : D) (M : Mem) : R (List D) := R.opt (frzOf x) M
@[simp] theorem kFrz_lst (xs : List D) : kFrz (.lst xs) M = .ok xs M := rfl
@[simp] theorem kFrz_scr (xs : List D) : kFrz (.scr xs) M = .ok xs M := rfl
@[simp] theorem x_aLst (a : ES) : aLst a Γ ρ M = (a Γ ρ M).bind kFrz := rfl
@[simp] theorem x_oNone : oNone Γ ρ M = .ok none M := rfl
def intOf (x : D) (M : Mem) : R (Option Int) := match x with
  | .int i => .ok (some i) M
  | _ => .stuck
@[simp] theorem intOf_int (i : Int) : intOf (.int i) M = .ok (some i) M := rfl
@[simp] theorem x_oSome (a : ES) : oSome a Γ ρ M = (a Γ ρ M).bind intOf := rfl
def kSl2 (x : D) (l h : Option Int) (M : Mem) : R D := R.opt (dSl M x l h) M
@[simp] theorem kSl2_eq (x : D) (l h : Option Int) : kSl2 x l h M = R.opt (dSl M x l h) M := rfl
def kSl1 (hi : OS) (Γ : Calls) (ρ : MP.Env) (x : D) (l : Option Int) (M : Mem) : R D := (hi Γ ρ M).bind (kSl2 x l)
@[simp] theorem kSl1_eq (hi : OS) (x : D) (l : Option Int) : kSl1 hi Γ ρ x l M = (hi Γ ρ M).bind (kSl2 x l) := rfl
def kSl (lo hi : OS) (Γ : Calls) (ρ : MP.Env) (x : D) (M : Mem) : R D := (lo Γ ρ M).bind (kSl1 hi Γ ρ x)
@[simp] theorem kSl_eq (lo hi : OS) (x : D) : kSl lo hi Γ ρ x M = (lo Γ ρ M).bind (kSl1 hi Γ ρ x) := rfl
@[simp] theorem x_sl (a : ES) (lo hi : OS) : eSl a lo hi Γ ρ M = (a Γ ρ M).bind (kSl lo hi Γ ρ) := rfl
def augG (i : Nat) (ρ : MP.Env) (o : Option D) (M : Mem) : SR := match o with
  | some z => .next (ρ.set i (some z)) M
  | none => .stuck
@[simp] theorem augG_some (i : Nat) (z : D) : augG i ρ (some z) M = .next (ρ.set i (some z)) M := rfl
def kAug1 (i : Nat) (f : Mem → D → D → Option D) (ρ : MP.Env) (x y : D) (M : Mem) : SR := augG i ρ (f M x y) M
@[simp] theorem kAug1_eq (i : Nat) (f : Mem → D → D → Option D) (x y : D) : kAug1 i f ρ x y M = augG i ρ (f M x y) M := rfl
def kAug (i : Nat) (f : Mem → D → D → Option D) (a : ES) (Γ : Calls) (ρ : MP.Env) (x : D) (M : Mem) : SR := (a Γ ρ M).toS ρ (kAug1 i f ρ x)
@[simp] theorem kAug_eq (i : Nat) (f : Mem → D → D → Option D) (a : ES) (x : D) : kAug i f a Γ ρ x M = (a Γ ρ M).toS ρ (kAug1 i f ρ x) := rfl
@[simp] theorem x_aug (i : Nat) (f : Mem → D → D → Option D) (a : ES) : sAug i f a Γ ρ M = (ofo ρ[i]? M).toS ρ (kAug i f a Γ ρ) := by
  unfold sAug
  generalize ρ[i]? = o
  rcases o with _ | (_ | x) <;> rfl
@[simp] theorem x_while (n : Nat) (t : TSm) (b : SS) : sWhile n t b Γ ρ M = whileL t b Γ n ρ M := rfl
def kWh (n : Nat) (t : TSm) (b : SS) (Γ : Calls) (ρ : MP.Env) (k : Bool) (M : Mem) : SR := if k = true then (b Γ ρ M).loop (whileL t b Γ n) else .next ρ M
@[simp] theorem kWh_t (n : Nat) (t : TSm) (b : SS) : kWh n t b Γ ρ true M = (b Γ ρ M).loop (whileL t b Γ n) := rfl
@[simp] theorem kWh_f (n : Nat) (t : TSm) (b : SS) : kWh n t b Γ ρ false M = .next ρ M := rfl
theorem while_succ (n : Nat) (t : TSm) (b : SS) : whileL t b Γ (n + 1) ρ M = (t Γ ρ M).toS ρ (kWh n t b Γ ρ) := by
  conv => lhs; unfold whileL
  cases t Γ ρ M with
  | ok k M1 =>
    cases k with
    | true =>
      show _ = SR.loop _ _
      unfold SR.loop
      dsimp only
      first | done | (cases b Γ ρ M1 <;> rfl)
    | false => rfl
  | _ => rfl
def kFor (g : GS) (b : SS) (Γ : Calls) (ρ : MP.Env) (ds : List D) (M : Mem) : SR := forL g b Γ ds ρ M
@[simp] theorem kFor_eq (g : GS) (b : SS) (ds : List D) : kFor g b Γ ρ ds M = forL g b Γ ds ρ M := rfl
@[simp] theorem x_for (s : AS) (g : GS) (b : SS) : sFor s g b Γ ρ M = (s Γ ρ M).toS ρ (kFor g b Γ ρ) := rfl
@[simp] theorem for_nil (g : GS) (b : SS) : forL g b Γ [] ρ M = .next ρ M := rfl
def kForB (g : GS) (b : SS) (Γ : Calls) (ds : List D) (ρ : MP.Env) (M : Mem) : SR := (b Γ ρ M).loop (forL g b Γ ds)
@[simp] theorem kForB_eq (g : GS) (b : SS) (ds : List D) : kForB g b Γ ds ρ M = (b Γ ρ M).loop (forL g b Γ ds) := rfl
theorem for_cons (g : GS) (b : SS) (d : D) (ds : List D) : forL g b Γ (d :: ds) ρ M = (asgG (g M d ρ) M).andThen (kForB g b Γ ds) := by
  conv => lhs; unfold forL
  unfold asgG kForB SR.andThen SR.loop
  cases g M d ρ with
  | none => rfl
  | some ρ1 =>
    dsimp only
    first | done | (cases b Γ ρ1 M <;> rfl)
def rng1 (xs : List D) (M : Mem) : R (List D) := match xs with
  | [.int j] => if rngOk j = true then .ok (rints 0 j.toNat) M else .stuck
  | _ => .stuck
@[simp] theorem rng1_int (j : Int) : rng1 [.int j] M = if rngOk j = true then .ok (rints 0 j.toNat) M else .stuck := rfl
@[simp] theorem x_rng1 (a : AS) : aRng1 a Γ ρ M = (a Γ ρ M).bind rng1 := rfl
def enT (xs : List D) (M : Mem) : R (List D) := match xs with
  | [.tup ds] => .ok (pairsFrom 0 ds) M
  | _ => .stuck
@[simp] theorem enT_tup (xs : List D) : enT [.tup xs] M = .ok (pairsFrom 0 xs) M := rfl
@[simp] theorem x_enT (a : AS) : aEnumT a Γ ρ M = (a Γ ρ M).bind enT := rfl
def zip2 (xs : List D) (M : Mem) : R (List D) := match xs with
  | [d, e] => match frzOf d, frzOf e with
    | some xs, some ys => .ok (zipD xs ys) M
    | _, _ => .stuck
  | _ => .stuck
@[simp] theorem zip2_lst (xs ys : List D) : zip2 [.lst xs, .lst ys] M = .ok (zipD xs ys) M := rfl
@[simp] theorem x_zip (a : AS) : aZip a Γ ρ M = (a Γ ρ M).bind zip2 := rfl
def kIsB (T : String) (x : D) (M : Mem) : R D := R.opt ((dIsiB T M x).map .bl) M
@[simp] theorem kIsB_eq (T : String) (x : D) : kIsB T x M = R.opt ((dIsiB T M x).map .bl) M := rfl
@[simp] theorem x_isiB (T : String) (a : ES) : eIsiB T a Γ ρ M = (a Γ ρ M).bind (kIsB T) := rfl
def kIsC (c : Str) (x : D) (M : Mem) : R D := R.opt ((dIsiC c M x).map .bl) M
@[simp] theorem kIsC_eq (c : Str) (x : D) : kIsC c x M = R.opt ((dIsiC c M x).map .bl) M := rfl
@[simp] theorem x_isiC (c : Str) (a : ES) : eIsiC c a Γ ρ M = (a Γ ρ M).bind (kIsC c) := rfl
@[simp] theorem i_add (i j : Int) : dAdd M (.int i) (.int j) = some (.int (i + j)) := rfl
@[simp] theorem i_addS (x y : Str) : dAdd M (.str x) (.str y) = if x.length + y.length ≤ sizeLine then some (.str (x ++ y)) else none := by
  show (Option.or none _) = _
  simp only [Option.none_or, dAddS]
  split <;> rfl
@[simp] theorem i_addL (xs ys : List D) : dAdd M (.lst xs) (.lst ys) = if xs.length + ys.length ≤ sizeLine then some (.lst (xs ++ ys)) else none := rfl
@[simp] theorem i_addI (i j : Int) : dAddI M (.int i) (.int j) = some (.int (i + j)) := rfl
@[simp] theorem i_sub (i j : Int) : dSub M (.int i) (.int j) = some (.int (i - j)) := rfl
@[simp] theorem i_mul (i j : Int) : dMulI M (.int i) (.int j) = if CMul i j then some (.int (i * j)) else none := rfl
@[simp] theorem i_div (i j : Int) : dDiv M (.int i) (.int j) = if CDivW i j then some (.int (i / j)) else none := rfl
@[simp] theorem i_mod (i j : Int) : dMod M (.int i) (.int j) = if 0 < j then some (.int (i % j)) else none := rfl
@[simp] theorem i_lt (i j : Int) : dLt M (.int i) (.int j) = some (.bl (decide (i < j))) := rfl
@[simp] theorem i_le (i j : Int) : dLe M (.int i) (.int j) = some (.bl (decide (i ≤ j))) := rfl
@[simp] theorem i_gt (i j : Int) : dGt M (.int i) (.int j) = some (.bl (decide (j < i))) := rfl
@[simp] theorem i_ge (i j : Int) : dGe M (.int i) (.int j) = some (.bl (decide (j ≤ i))) := rfl
@[simp] theorem i_neg (i : Int) : dNeg M (.int i) = some (.int (-i)) := rfl
@[simp] theorem i_eq (i j : Int) : dEq M (.int i) (.int j) = some (.bl (decide (i = j))) := rfl
@[simp] theorem i_ne (i j : Int) : dNe M (.int i) (.int j) = some (.bl (!decide (i = j))) := rfl
@[simp] theorem s_eq (i j : Str) : dEq M (.str i) (.str j) = some (.bl (decide (i = j))) := rfl
@[simp] theorem s_ne (i j : Str) : dNe M (.str i) (.str j) = some (.bl (!decide (i = j))) := rfl
@[simp] theorem b_eq (i j : Bool) : dEq M (.bl i) (.bl j) = some (.bl (decide (i = j))) := rfl
@[simp] theorem b_ne (i j : Bool) : dNe M (.bl i) (.bl j) = some (.bl (!decide (i = j))) := rfl
@[simp] theorem n_isN : dIsN M .non .non = some (.bl true) := rfl
@[simp] theorem t_isN (xs : List D) : dIsN M (.tup xs) .non = some (.bl false) := rfl
@[simp] theorem n_tru (i : Int) : dTru M (.int i) = some (i != 0) := rfl
@[simp] theorem b_tru (i : Bool) : dTru M (.bl i) = some i := rfl
@[simp] theorem l_tru (xs : List D) : dTru M (.lst xs) = some (!xs.isEmpty) := rfl
@[simp] theorem int_int (i : Int) : dInt M [.int i] = some (.int i) := rfl
@[simp] theorem abs_int (i : Int) : dAbs M [.int i] = some (.int (if i < 0 then -i else i)) := rfl
@[simp] theorem len_str (x : Str) : dLen M [.str x] = if x.length ≤ sizeLine then some (.int x.length) else none := rfl
@[simp] theorem len_tup (x : List D) : dLen M [.tup x] = some (.int x.length) := rfl
@[simp] theorem len_lst (x : List D) : dLen M [.lst x] = some (.int x.length) := rfl
@[simp] theorem ix_tup (xs : List D) (i : Int) : dIx M (.tup xs) (.int i) = atI xs i := rfl
@[simp] theorem ix_lst (xs : List D) (i : Int) : dIx M (.lst xs) (.int i) = atI xs i := rfl
@[simp] theorem str_str (x : Str) : dStrS M [.str x] = some (.str x) := rfl
@[simp] theorem frz_lst (xs : List D) : frzOf (.lst xs) = some xs := rfl
@[simp] theorem frz_scr (xs : List D) : frzOf (.scr xs) = some xs := rfl
@[simp] theorem sum_lst (xs : List D) : dSum M [.lst xs] = (asInts xs).map fun ns => .int ns.sum := rfl
@[simp] theorem max_lst (xs : List D) : dMaxL M [.lst xs] = (asInts xs).bind fun ns => if ns = [] then none else some (.int (greatest ns)) := rfl
@[simp] theorem x_join (a : ES) (z : Str) : eJoin (eC (.str z)) a Γ ρ M = (a Γ ρ M).bind (kF (dJoin z)) := rfl
@[simp] theorem join_lst (z : Str) (xs : List D) : dJoin z M (.lst xs) = (asStrs xs).bind fun ys => if (ys.map fun y : Str => y.length).sum + ys.length * z.length ≤ 16777216 then some (.str (PySem.Txt.join z ys)) else none := rfl
end
theorem atI_nat {α : Type} (xs : List α) (i : Nat) : atI xs (i : Int) = xs[i]? := by
  unfold atI ixN
  rw [if_pos (by omega)]
  by_cases h : i < xs.length
  · rw [if_pos (by omega)]; rfl
  · rw [if_neg (by omega), List.getElem?_eq_none (by omega)]; rfl
theorem lc_map {t : TSm} {el : ES} {Γ : Calls} {ρ : MP.Env} {i : Nat} {f : D → D} {M : Mem} : ∀ {ds : List D}, (∀ d ∈ ds, el Γ (ρ.set i (some d)) M = .ok (f d) M) → (∀ d ∈ ds, t Γ (ρ.set i (some d)) M = .ok true M) → lcL (gN i) t el Γ ρ ds M = .ok (ds.map f) M
  | [], _, _ => rfl
  | d :: ds, h, ht => by
    have e := lc_map (ds := ds) (fun d hd => h d (List.mem_cons_of_mem _ hd)) fun d hd => ht d (List.mem_cons_of_mem _ hd)
    unfold lcL
    simp only [gN]
    rw [ht d List.mem_cons_self]
    simp only []
    rw [h d List.mem_cons_self]
    simp only []
    rw [e]
    rfl
/-! ### lists that change -/
section
variable (Γ : Calls) (ρ : MP.Env) (M : Mem)
def kApp1 (k : Nat) (y : D) (M2 : Mem) : R D := match M2[k]? with
  | some (.lst xs) => if xs.length < sizeLine then .ok .non (M2.set k (.lst (xs ++ [y]))) else .stuck
  | _ => .stuck
def kApp (a : ES) (Γ : Calls) (ρ : MP.Env) (x : D) (M1 : Mem) : R D := match x with
  | .ref k => match M1[k]? with
    | some (.lst _) => (a Γ ρ M1).bind (kApp1 k)
    | _ => .stuck
  | _ => .stuck
@[simp] theorem x_append (o a : ES) : eAppend o a Γ ρ M = (o Γ ρ M).bind (kApp a Γ ρ) := by
  unfold eAppend kApp kApp1
  rfl
@[simp] theorem kApp_ref {a : ES} {k : Nat} {xs : List D} (h : M[k]? = some (.lst xs)) : kApp a Γ ρ (.ref k) M = (a Γ ρ M).bind (kApp1 k) := by
  unfold kApp
  simp only [h]
@[simp] theorem kApp1_ref {y : D} {k : Nat} {xs : List D} (h : M[k]? = some (.lst xs)) (hl : xs.length < sizeLine) : kApp1 k y M = .ok .non (M.set k (.lst (xs ++ [y]))) := by
  unfold kApp1
  simp only [h, if_pos hl]
def kPop1 (k : Nat) (y : D) (M2 : Mem) : R D := match y with
  | .int i => match M2[k]? with
    | some (.lst xs) => match ixN xs.length i with
      | some j => match xs[j]? with
        | some d => if -(2 ^ 63) ≤ i ∧ i < 2 ^ 63 then .ok d (M2.set k (.lst (xs.eraseIdx j))) else .stuck
        | none => .stuck
      | none => .stuck
    | _ => .stuck
  | _ => .stuck
def kPop (a : ES) (Γ : Calls) (ρ : MP.Env) (x : D) (M1 : Mem) : R D := match x with
  | .ref k => match M1[k]? with
    | some (.lst _) => (a Γ ρ M1).bind (kPop1 k)
    | _ => .stuck
  | _ => .stuck
@[simp] theorem x_pop (o a : ES) : ePopAt o a Γ ρ M = (o Γ ρ M).bind (kPop a Γ ρ) := by
  unfold ePopAt kPop kPop1
  rfl
@[simp] theorem kPop_ref {a : ES} {k : Nat} {xs : List D} (h : M[k]? = some (.lst xs)) : kPop a Γ ρ (.ref k) M = (a Γ ρ M).bind (kPop1 k) := by
  unfold kPop
  simp only [h]
def kPop3 (k : Nat) (M : Mem) (o : Option MO) : R D := match o with
  | some (.lst (x :: xs)) => .ok x (M.set k (.lst xs))
  | _ => .stuck
@[simp] theorem kPop3_lst (k : Nat) (x : D) (xs : List D) : kPop3 k M (some (.lst (x :: xs))) = .ok x (M.set k (.lst xs)) := rfl
@[simp] theorem kPop1_0 (k : Nat) : kPop1 k (.int 0) M = kPop3 k M M[k]? := by
  unfold kPop1 kPop3
  generalize M[k]? = o
  rcases o with _ | (xs | _ | _ | _)
  · rfl
  · rcases xs with _ | ⟨x, xs⟩
    · rfl
    · have e : ixN (x :: xs).length 0 = some 0 := by unfold ixN; rw [if_pos (by omega), if_pos (by simp)]; rfl
      simp only [e]
      rfl
  · rfl
  · rfl
  · rfl
def kSetF (ρ : MP.Env) (y x j : D) (M3 : Mem) : SR := match x, j with
  | .ref k, .int n => match M3[k]? with
    | some (.lst xs) => match ixN xs.length n with
      | some q => .next ρ (M3.set k (.lst (xs.set q y)))
      | none => .stuck
    | _ => .stuck
  | _, _ => .stuck
def kSet2 (i : ES) (Γ : Calls) (ρ : MP.Env) (y x : D) (M : Mem) : SR := (i Γ ρ M).toS ρ (kSetF ρ y x)
def kSet1 (o i : ES) (Γ : Calls) (ρ : MP.Env) (y : D) (M : Mem) : SR := (o Γ ρ M).toS ρ (kSet2 i Γ ρ y)
@[simp] theorem kSet2_eq (i : ES) (y x : D) : kSet2 i Γ ρ y x M = (i Γ ρ M).toS ρ (kSetF ρ y x) := rfl
@[simp] theorem kSet1_eq (o i : ES) (y : D) : kSet1 o i Γ ρ y M = (o Γ ρ M).toS ρ (kSet2 i Γ ρ y) := rfl
@[simp] theorem x_setIx (o i v : ES) : sSetIx o i v Γ ρ M = (v Γ ρ M).toS ρ (kSet1 o i Γ ρ) := by
  unfold sSetIx kSet1 kSet2 kSetF
  rfl
def kSt4 (ρ : MP.Env) (y : D) (k : Nat) (M : Mem) (xs : List D) (o : Option Nat) : SR := match o with
  | some q => .next ρ (M.set k (.lst (xs.set q y)))
  | none => .stuck
def kSt3 (ρ : MP.Env) (y : D) (k : Nat) (n : Int) (M : Mem) (o : Option MO) : SR := match o with
  | some (.lst xs) => kSt4 ρ y k M xs (ixN xs.length n)
  | _ => .stuck
@[simp] theorem kSt4_some (y : D) (k q : Nat) (xs : List D) : kSt4 ρ y k M xs (some q) = .next ρ (M.set k (.lst (xs.set q y))) := rfl
@[simp] theorem kSt3_lst (y : D) (k : Nat) (n : Int) (xs : List D) : kSt3 ρ y k n M (some (.lst xs)) = kSt4 ρ y k M xs (ixN xs.length n) := rfl
@[simp] theorem kSetF_eq (y : D) (k : Nat) (n : Int) : kSetF ρ y (.ref k) (.int n) M = kSt3 ρ y k n M M[k]? := by
  unfold kSetF kSt3 kSt4
  rfl
theorem kSetF_ref {k q : Nat} {n : Int} {y : D} {xs : List D} (h : M[k]? = some (.lst xs)) (hq : ixN xs.length n = some q) : kSetF ρ y (.ref k) (.int n) M = .next ρ (M.set k (.lst (xs.set q y))) := by
  unfold kSetF
  simp only [h, hq]
def kAgF (ρ : MP.Env) (k : Nat) (n z : Int) (y : D) (M3 : Mem) : SR := match y, M3[k]? with
  | .int w, some (.lst ys) => match ixN ys.length n with
    | some q => .next ρ (M3.set k (.lst (ys.set q (.int (z + w)))))
    | none => .stuck
  | _, _ => .stuck
def kAg2 (v : ES) (Γ : Calls) (ρ : MP.Env) (x j : D) (M2 : Mem) : SR := match x, j with
  | .ref k, .int n => match M2[k]? with
    | some (.lst xs) => match atI xs n with
      | some (.int z) => (v Γ ρ M2).toS ρ (kAgF ρ k n z)
      | _ => .stuck
    | _ => .stuck
  | _, _ => .stuck
def kAg1 (i v : ES) (Γ : Calls) (ρ : MP.Env) (x : D) (M : Mem) : SR := (i Γ ρ M).toS ρ (kAg2 v Γ ρ x)
@[simp] theorem kAg1_eq (i v : ES) (x : D) : kAg1 i v Γ ρ x M = (i Γ ρ M).toS ρ (kAg2 v Γ ρ x) := rfl
@[simp] theorem x_augIx (o i v : ES) : sAugIx o i v Γ ρ M = (o Γ ρ M).toS ρ (kAg1 i v Γ ρ) := by
  unfold sAugIx kAg1 kAg2 kAgF
  rfl
def kAg4 (v : ES) (Γ : Calls) (ρ : MP.Env) (k : Nat) (n : Int) (M : Mem) (o : Option D) : SR := match o with
  | some (.int z) => (v Γ ρ M).toS ρ (kAgF ρ k n z)
  | _ => .stuck
def kAg3 (v : ES) (Γ : Calls) (ρ : MP.Env) (k : Nat) (n : Int) (M : Mem) (o : Option MO) : SR := match o with
  | some (.lst xs) => kAg4 v Γ ρ k n M (atI xs n)
  | _ => .stuck
@[simp] theorem kAg4_int (v : ES) (k : Nat) (n z : Int) : kAg4 v Γ ρ k n M (some (.int z)) = (v Γ ρ M).toS ρ (kAgF ρ k n z) := rfl
@[simp] theorem kAg3_lst (v : ES) (k : Nat) (n : Int) (xs : List D) : kAg3 v Γ ρ k n M (some (.lst xs)) = kAg4 v Γ ρ k n M (atI xs n) := rfl
@[simp] theorem kAg2_eq (v : ES) (k : Nat) (n : Int) : kAg2 v Γ ρ (.ref k) (.int n) M = kAg3 v Γ ρ k n M M[k]? := by
  unfold kAg2 kAg3 kAg4
  rfl
@[simp] theorem kAgF_eq (k : Nat) (n z w : Int) : kAgF ρ k n z (.int w) M = kSt3 ρ (.int (z + w)) k n M M[k]? := by
  unfold kAgF kSt3 kSt4
  rcases M[k]? with _ | (_ | _ | _ | _) <;> rfl
theorem kAg2_ref {v : ES} {k : Nat} {n z : Int} {xs : List D} (h : M[k]? = some (.lst xs)) (hq : atI xs n = some (.int z)) : kAg2 v Γ ρ (.ref k) (.int n) M = (v Γ ρ M).toS ρ (kAgF ρ k n z) := by
  unfold kAg2
  simp only [h, hq]
theorem kAgF_ref {k q : Nat} {n z w : Int} {ys : List D} (h : M[k]? = some (.lst ys)) (hq : ixN ys.length n = some q) : kAgF ρ k n z (.int w) M = .next ρ (M.set k (.lst (ys.set q (.int (z + w))))) := by
  unfold kAgF
  simp only [h, hq]
@[simp] theorem len_ref {k : Nat} {xs : List D} (h : M[k]? = some (.lst xs)) : dLen M [.ref k] = some (.int xs.length) := by
  show (lstOf M (.ref k)).map _ = _
  simp [lstOf, h]
@[simp] theorem tup_ref {k : Nat} {xs : List D} (h : M[k]? = some (.lst xs)) : dTuple M [.ref k] = some (.tup xs) := by
  show (lstOf M (.ref k)).map _ = _
  simp [lstOf, h]
@[simp] theorem ix_ref {k : Nat} {i : Int} {xs : List D} (h : M[k]? = some (.lst xs)) : dIx M (.ref k) (.int i) = atI xs i := by
  show (lstOf M (.ref k)).bind _ = _
  simp [lstOf, h]
@[simp] theorem tru_ref {k : Nat} {xs : List D} (h : M[k]? = some (.lst xs)) : dTru M (.ref k) = some (!xs.isEmpty) := by
  show (lstOf M (.ref k)).map _ = _
  simp [lstOf, h]
end
/-! ### instances -/
section
variable (Γ : Calls) (ρ : MP.Env) (M : Mem)
def kMk2 (frz : Bool) (n : Nat) (v : D) (M2 : Mem) : R D := match v with
  | .non => if frz then (match M2[n]? with
    | some (.ins c' fs) => .ok (.obj c' fs) (M2.set n .dead)
    | _ => .stuck) else .ok (.ref n) M2
  | _ => .stuck
def kMk (c : Str) (i : Nat) (frz : Bool) (Γ : Calls) (ds : List D) (M1 : Mem) : R D := (Γ i (.ref M1.length :: ds) (M1 ++ [.ins c []])).bind (kMk2 frz M1.length)
@[simp] theorem x_make (c : Str) (i : Nat) (frz : Bool) (a : AS) : eMake c i frz a Γ ρ M = (a Γ ρ M).bind (kMk c i frz Γ) := by
  unfold eMake kMk kMk2
  rfl
def kMk3 (n : Nat) (M : Mem) (o : Option MO) : R D := match o with
  | some (.ins c' fs) => .ok (.obj c' fs) (M.set n .dead)
  | _ => .stuck
@[simp] theorem kMk3_ins (n : Nat) (c : Str) (fs : List (Str × D)) : kMk3 n M (some (.ins c fs)) = .ok (.obj c fs) (M.set n .dead) := rfl
@[simp] theorem kMk2_t (n : Nat) : kMk2 true n .non M = kMk3 n M M[n]? := by
  unfold kMk2 kMk3
  rfl
@[simp] theorem kMk2_f (n : Nat) : kMk2 false n .non M = .ok (.ref n) M := rfl
theorem kMk2_frz {n : Nat} {c : Str} {fs : List (Str × D)} (h : M[n]? = some (.ins c fs)) : kMk2 true n .non M = .ok (.obj c fs) (M.set n .dead) := by
  unfold kMk2
  simp only [h]
  rfl
def kFd2 (cs : List Str) (f : Str) (ρ : MP.Env) (y x : D) (M2 : Mem) : SR := match x with
  | .ref k => match M2[k]? with
    | some (.ins c fs) => if c ∈ cs ∧ fs.length < 1000 then .next ρ (M2.set k (.ins c (putD f y fs))) else .stuck
    | _ => .stuck
  | _ => .stuck
def kFd1 (cs : List Str) (f : Str) (o : ES) (Γ : Calls) (ρ : MP.Env) (y : D) (M : Mem) : SR := (o Γ ρ M).toS ρ (kFd2 cs f ρ y)
@[simp] theorem kFd1_eq (cs : List Str) (f : Str) (o : ES) (y : D) : kFd1 cs f o Γ ρ y M = (o Γ ρ M).toS ρ (kFd2 cs f ρ y) := rfl
@[simp] theorem x_fldS (cs : List Str) (f : Str) (o v : ES) : sFldD cs f o v Γ ρ M = (v Γ ρ M).toS ρ (kFd1 cs f o Γ ρ) := by
  unfold sFldD kFd1 kFd2
  rfl
def kFd3 (cs : List Str) (f : Str) (ρ : MP.Env) (y : D) (k : Nat) (M : Mem) (o : Option MO) : SR := match o with
  | some (.ins c fs) => if c ∈ cs ∧ fs.length < 1000 then .next ρ (M.set k (.ins c (putD f y fs))) else .stuck
  | _ => .stuck
@[simp] theorem kFd3_ins (cs : List Str) (f : Str) (y : D) (k : Nat) (c : Str) (fs : List (Str × D)) : kFd3 cs f ρ y k M (some (.ins c fs)) = if c ∈ cs ∧ fs.length < 1000 then .next ρ (M.set k (.ins c (putD f y fs))) else .stuck := rfl
@[simp] theorem kFd2_eq (cs : List Str) (f : Str) (y : D) (k : Nat) : kFd2 cs f ρ y (.ref k) M = kFd3 cs f ρ y k M M[k]? := by
  unfold kFd2 kFd3
  rfl
theorem kFd2_ref {cs : List Str} {f c : Str} {y : D} {k : Nat} {fs : List (Str × D)} (h : M[k]? = some (.ins c fs)) (hc : c ∈ cs) (hl : fs.length < 1000) : kFd2 cs f ρ y (.ref k) M = .next ρ (M.set k (.ins c (putD f y fs))) := by
  unfold kFd2
  simp only [h, if_pos (And.intro hc hl)]
def insC (c : Str) (o : Option (Str × List (Str × D))) (r : R D) : R D := match o with
  | some (c', _) => if c' = c then r else .stuck
  | none => .stuck
def okOnly (r : R D) : R D := match r with
  | .ok d M2 => .ok d M2
  | _ => .stuck
@[simp] theorem okOnly_ok (d : D) : okOnly (.ok d M) = .ok d M := rfl
def kProp (c : Str) (q : Nat) (Γ : Calls) (x : D) (M1 : Mem) : R D := match insOf M1 x with
  | some (c', _) => if c' = c then okOnly (Γ q [x] M1) else .stuck
  | none => .stuck
@[simp] theorem x_prop (c : Str) (q : Nat) (o : ES) : eProp c q o Γ ρ M = (o Γ ρ M).bind (kProp c q Γ) := by
  unfold eProp kProp okOnly
  rfl
@[simp] theorem kProp_obj (c : Str) (q : Nat) (fs : List (Str × D)) : kProp c q Γ (.obj c fs) M = okOnly (Γ q [.obj c fs] M) := by
  show (if c = c then _ else _) = _
  rw [if_pos rfl]
def calmK (chk : D → Option D) (d : D) (M : Mem) : R D := R.opt (chk d) M
@[simp] theorem calmK_eq (chk : D → Option D) (d : D) : calmK chk d M = R.opt (chk d) M := rfl
@[simp] theorem calm_ok' (d : D) (f : D → Mem → R D) : (R.ok d M).calm f = f d M := rfl
def chk1 (chk : D → Bool) (d : D) (M : Mem) : R D := if chk d = true then .ok d M else .stuck
@[simp] theorem chk1_len (i : Nat) (h : i < 1000) : chk1 isLen (.int i) M = .ok (.int i) M := by
  unfold chk1
  rw [if_pos]
  simp only [isLen, Bool.and_eq_true, decide_eq_true_eq]
  omega
@[simp] theorem chk1_txt (x : Str) : chk1 isTxt (.str x) M = .ok (.str x) M := rfl
def kD1 (c : Str) (q : Nat) (chk : D → Bool) (Γ : Calls) (x : D) (M1 : Mem) : R D := match insOf M1 x with
  | some (c', _) => if c' = c then (Γ q [x] M1).calm (chk1 chk) else .stuck
  | none => .stuck
@[simp] theorem x_dun1 (c : Str) (q : Nat) (chk : D → Bool) (o : ES) : eDun1 c q chk o Γ ρ M = (o Γ ρ M).bind (kD1 c q chk Γ) := by
  unfold eDun1 kD1 chk1
  rfl
@[simp] theorem kD1_obj (c : Str) (q : Nat) (chk : D → Bool) (fs : List (Str × D)) : kD1 c q chk Γ (.obj c fs) M = (Γ q [.obj c fs] M).calm (chk1 chk) := by
  show (if c = c then _ else _) = _
  rw [if_pos rfl]
def kD2F (c : Str) (q : Nat) (okb : Mem → D → Bool) (chk : D → Option D) (Γ : Calls) (x y : D) (M2 : Mem) : R D := match insOf M2 x with
  | some (c', _) => if c' = c ∧ okb M2 y = true then (Γ q [x, y] M2).calm (calmK chk) else .stuck
  | none => .stuck
def kD2 (c : Str) (q : Nat) (okb : Mem → D → Bool) (chk : D → Option D) (b : ES) (Γ : Calls) (ρ : MP.Env) (x : D) (M1 : Mem) : R D := (b Γ ρ M1).bind (kD2F c q okb chk Γ x)
@[simp] theorem kD2_eq (c : Str) (q : Nat) (okb : Mem → D → Bool) (chk : D → Option D) (b : ES) (x : D) : kD2 c q okb chk b Γ ρ x M = (b Γ ρ M).bind (kD2F c q okb chk Γ x) := rfl
@[simp] theorem x_dun2 (c : Str) (q : Nat) (okb : Mem → D → Bool) (chk : D → Option D) (a b : ES) : eDun2 c q okb chk a b Γ ρ M = (a Γ ρ M).bind (kD2 c q okb chk b Γ ρ) := by
  unfold eDun2 kD2 kD2F calmK
  rfl
theorem kD2F_obj (c : Str) (q : Nat) {okb : Mem → D → Bool} (chk : D → Option D) (fs : List (Str × D)) {y : D} (h : okb M y = true) : kD2F c q okb chk Γ (.obj c fs) y M = (Γ q [.obj c fs, y] M).calm (calmK chk) := by
  show (if c = c ∧ okb M y = true then _ else _) = _
  rw [if_pos ⟨rfl, h⟩]
@[simp] theorem kD2F_any (c : Str) (q : Nat) (chk : D → Option D) (fs : List (Str × D)) (y : D) : kD2F c q (fun _ _ => true) chk Γ (.obj c fs) y M = (Γ q [.obj c fs, y] M).calm (calmK chk) := kD2F_obj Γ M c q chk fs rfl
@[simp] theorem ok_str (c x : Str) : okEq c M (.str x) = true := rfl
@[simp] theorem ok_tup (c : Str) (x : List D) : okEq c M (.tup x) = true := rfl
@[simp] theorem ok_non (c : Str) : okEq c M .non = true := rfl
@[simp] theorem ok_int (c : Str) (i : Int) : okEq c M (.int i) = true := rfl
@[simp] theorem ok_obj (c : Str) (fs : List (Str × D)) : okEq c M (.obj c fs) = true := decide_eq_true rfl
@[simp] theorem chkNe_bl (k : Bool) : chkNe (.bl k) = some (.bl (!k)) := rfl
@[simp] theorem isiC_obj (c : Str) (fs : List (Str × D)) : dIsiC c M (.obj c fs) = some true := by
  show (if c = c then some true else none) = _
  rw [if_pos rfl]
@[simp] theorem isiC_str (c x : Str) : dIsiC c M (.str x) = some false := rfl
@[simp] theorem isiC_tup (c : Str) (x : List D) : dIsiC c M (.tup x) = some false := rfl
@[simp] theorem isiC_non (c : Str) : dIsiC c M .non = some false := rfl
@[simp] theorem isiC_int (c : Str) (x : Int) : dIsiC c M (.int x) = some false := rfl
def kJ (acc : Str) (r : List ES) (Γ : Calls) (ρ : MP.Env) (x : D) (M1 : Mem) : R D := match x with
  | .str y => if (acc ++ y).length ≤ sizeLine then jFrom (acc ++ y) r Γ ρ M1 else .stuck
  | _ => .stuck
@[simp] theorem jFrom_nil (acc : Str) : jFrom acc [] Γ ρ M = .ok (.str acc) M := rfl
@[simp] theorem jFrom_cons (acc : Str) (a : ES) (r : List ES) : jFrom acc (a :: r) Γ ρ M = (a Γ ρ M).bind (kJ acc r Γ ρ) := by
  unfold kJ
  rfl
theorem kJ_str {acc : Str} {r : List ES} {y : Str} (h : (acc ++ y).length ≤ sizeLine) : kJ acc r Γ ρ (.str y) M = jFrom (acc ++ y) r Γ ρ M := by
  show (if (acc ++ y).length ≤ sizeLine then _ else _) = _
  rw [if_pos h]
end
end MP
set_option maxRecDepth 100000
set_option maxHeartbeats 4000000
namespace MP
open PySem L2
/-! ### exceptions: made and raised -/
theorem upd_over {H : Hp} {d a : Addr} {o o' p : HO} (h : d ≠ a) : upd (upd (upd H d o) a p) d o' = upd (upd H d o') a p := by
  funext b
  by_cases hb : b = d
  · subst hb
    rw [upd_same, upd_ne h, upd_same]
  · rw [upd_ne hb]
    by_cases ha : b = a
    · subst ha
      rw [upd_same, upd_same]
    · rw [upd_ne ha, upd_ne ha, upd_ne hb, upd_ne hb]
theorem mk_heap {H : Hp} {a d C : Addr} {gs : List (Str × V)} {o1 o2 o3 : HO} (ha : H a = none) (hda : d ≠ a) : upd (del (upd (upd (upd H a o1) d o2) a o3) a) d (.xd gs) = upd H d (.xd gs) := by
  funext b
  by_cases hb : b = d
  · subst hb
    rw [upd_same, upd_same]
  · rw [upd_ne hb, upd_ne hb]
    by_cases hc : b = a
    · subst hc
      rw [del_same, ha]
    · rw [del_ne hc, upd_ne hc, upd_ne hb, upd_ne hc]
/-- B.__init__(self, ..) of a base class of the program's own that has none of its own -/
structure XBase (K : PySem.W.Frag) (mg : Str → Option Value) (x : Str) : Prop where
  ex : ∃ C, mg x = some (.ref C) ∧ PySem.W.readsIn K C (.type "type") = true ∧ PySem.W.specialIn K (.ref C) "__getattribute__" = some (some (.builtin "type.__getattribute__")) ∧
    PySem.W.findCls K (.ref C) (.type "type") "__init__" = some (.val (.builtin "ValueError.__init__"))
section
variable {X : Cx} {o e : Expr} {es : List Expr} {to te : TE} {ta : TA} {f : Str} {p p' p1 p2 pos : Pos}
theorem pe_oinit {x : Str} {pl : Sem Bool} (B : XBase X.K X.mg x) (hg : Gl X x := by rfl) (ha : PA X (e :: es) ta)
    (hc : eval (.Call (.Attribute (.Name x p1) "__init__" p2) (e :: es) [] pos) X.env = (do
      let ov ← eval (.Name x p1) X.env
      standAt p2.atName
      let (f, first) ← holding [ov] (getMethod ov "__init__" pl)
      callWith pos f first (backTo pos (starEach (e :: es) X.env)) (backToKw pos (keywordEach [] X.env))) := by rfl)
    (he : starEach (e :: es) X.env = (false, eval e X.env) :: starEach es X.env := by rfl) (hpl : (backTo pos (starEach es X.env)).any (·.1) = false := by rfl) (hdb : (x == ("__debug__" : Str)) = false := by decide) :
    PE X (.Call (.Attribute (.Name x p1) "__init__" p2) (e :: es) [] pos) (tVeI X.K ta) := by
  obtain ⟨C0, hm, hr, hga, vV⟩ := B.ex
  refine ⟨fun pins s σ H Q I h => ?_⟩
  refine PySem.W.methodCall_KW (ld_glob I hg hm ?_ hdb) hc
  refine PySem.W.method_cls I.kIn hga ?_
  refine PySem.W.cls_value I.kIn hr vV (by decide +kernel) ?_
  show wpAny _ _ (callWith pos (Value.builtin "ValueError.__init__") [] (backTo pos (starEach (e :: es) X.env)) []) _ _ _
  refine PyProof.Rows.callWith_method1 (thn (ha.run pos pins _ σ H _ ((I.tok _).tok _) h) fun us s1 ⟨vs, H1, I1, r1, a, C, ws, ev, hl, T, ea, q⟩ => ?_) he hpl
  subst ev
  cases r1 with
  | @cons _ u0 _ ur ra rw' =>
    obtain rfl : u0 = Value.ref a := ra
    have hlen : ur.length ≤ sizeLine := by
      rw [← Paired.length rw', sizeLine_eq]
      omega
    exact oinit_ok T I1 ea hlen fun s' J => ⟨.non, H1, J, rfl, q⟩
end
def XFree (K : PySem.W.Frag) (C : Addr) (fs : List Str) : Prop := ∀ f ∈ fs, PySem.W.findIn K (.ref C) f = some none
/-- an own __init__ that stores its parameters -/
def spX (K : PySem.W.Frag) (fs : List Str) : Sp := fun vs H Q _ => vs.length = fs.length + 1 ∧ ∃ (a C : Addr) (ys : List V), vs = .ref a :: ys ∧ OexC K C ∧ XFree K C fs ∧ H a = some (exo a C none) ∧
  ∀ dx, H dx = none → dx ≠ a → Q .non (upd (upd H dx (exd dx (fs.zip ys).reverse)) a (exo a C (some dx)))
/-- the readings of such bodies -/
abbrev tXI (K : PySem.W.Frag) (ts : Str) : TS := tDrop (tVeI K (tCons (tVar 0) (tCons (tC (.str ts)) tNil)))
section
variable {P : Program} {w : World} {K : PySem.W.Frag} {mg : Str → Option Value} {base : Heap} {x qual : Str} {st : Stmt} {f : Addr} {fd : FuncData} {ps : List Str} {k : Nat} {f1 f2 f3 : Str} {ts : Str}
theorem fnX1 (Fu : Fun K x qual st f fd) (S : FnScope ["self", f1] ["self", f1] (defScope st))
    (body : ∀ (cdv : Value) (A : Around) (outer : List PySem.Env) (s : Shared) (H : Hp) (E : XK),
      PSs (cxOf (L2.CX P w) P w K mg base ["self", f1] qual (defScope st) f cdv A outer s H E) (defBody st) (tSeq (tXI K ts) (tOst K f1 (tVar 0) (tVar 1)))) : FnOk P w K mg base (L2.CX P w) (k + 1) f fd ["self", f1] (spX K [f1]) := by
  refine Fu.okX S (fun vs H Q E h => h.1) (fun cdv A outer s H vs Q E hr h => ⟨_, body cdv A outer s H E, ?_⟩)
  obtain ⟨hl, a, C, ys, rfl, T, hf, ha, q⟩ := h
  match ys, hl with
  | [y], _ =>
    refine ⟨.ref a, rfl, a, C, _, rfl, by simp, T, ha, ?_⟩
    exact ⟨y, rfl, .ref a, rfl, a, C, rfl, T, hf f1 (by simp), .inl ⟨ha, fun dx n ne => q dx n ne⟩⟩
theorem fnX2 (Fu : Fun K x qual st f fd) (S : FnScope ["self", f1, f2] ["self", f1, f2] (defScope st))
    (body : ∀ (cdv : Value) (A : Around) (outer : List PySem.Env) (s : Shared) (H : Hp) (E : XK),
      PSs (cxOf (L2.CX P w) P w K mg base ["self", f1, f2] qual (defScope st) f cdv A outer s H E) (defBody st) (tSeq (tXI K ts) (tSeq (tOst K f1 (tVar 0) (tVar 1)) (tOst K f2 (tVar 0) (tVar 2))))) : FnOk P w K mg base (L2.CX P w) (k + 1) f fd ["self", f1, f2] (spX K [f1, f2]) := by
  refine Fu.okX S (fun vs H Q E h => h.1) (fun cdv A outer s H vs Q E hr h => ⟨_, body cdv A outer s H E, ?_⟩)
  obtain ⟨hl, a, C, ys, rfl, T, hf, ha, q⟩ := h
  match ys, hl with
  | [y, z], _ =>
    refine ⟨.ref a, rfl, a, C, _, rfl, by simp, T, ha, ?_⟩
    refine ⟨y, rfl, .ref a, rfl, a, C, rfl, T, hf f1 (by simp), .inl ⟨ha, fun dx n ne => ?_⟩⟩
    refine ⟨z, rfl, .ref a, rfl, a, C, rfl, T, hf f2 (by simp), .inr ⟨dx, _, upd_same, (upd_ne ne).trans upd_same, by simp, ?_⟩⟩
    rw [upd_over ne]
    exact q dx n ne
theorem fnX3 (Fu : Fun K x qual st f fd) (S : FnScope ["self", f1, f2, f3] ["self", f1, f2, f3] (defScope st))
    (body : ∀ (cdv : Value) (A : Around) (outer : List PySem.Env) (s : Shared) (H : Hp) (E : XK),
      PSs (cxOf (L2.CX P w) P w K mg base ["self", f1, f2, f3] qual (defScope st) f cdv A outer s H E) (defBody st) (tSeq (tXI K ts) (tSeq (tOst K f1 (tVar 0) (tVar 1)) (tSeq (tOst K f2 (tVar 0) (tVar 2)) (tOst K f3 (tVar 0) (tVar 3)))))) : FnOk P w K mg base (L2.CX P w) (k + 1) f fd ["self", f1, f2, f3] (spX K [f1, f2, f3]) := by
  refine Fu.okX S (fun vs H Q E h => h.1) (fun cdv A outer s H vs Q E hr h => ⟨_, body cdv A outer s H E, ?_⟩)
  obtain ⟨hl, a, C, ys, rfl, T, hf, ha, q⟩ := h
  match ys, hl with
  | [y, z, u], _ =>
    refine ⟨.ref a, rfl, a, C, _, rfl, by simp, T, ha, ?_⟩
    refine ⟨y, rfl, .ref a, rfl, a, C, rfl, T, hf f1 (by simp), .inl ⟨ha, fun dx n ne => ?_⟩⟩
    refine ⟨z, rfl, .ref a, rfl, a, C, rfl, T, hf f2 (by simp), .inr ⟨dx, _, upd_same, (upd_ne ne).trans upd_same, by simp, ?_⟩⟩
    rw [upd_over ne]
    refine ⟨u, rfl, .ref a, rfl, a, C, rfl, T, hf f3 (by simp), .inr ⟨dx, _, upd_same, (upd_ne ne).trans upd_same, by simp, ?_⟩⟩
    rw [upd_over ne]
    exact q dx n ne
end
/-- an exception class with such an __init__ -/
structure XMk (P : Program) (w : World) (K : PySem.W.Frag) (mg : Str → Option Value) (base : Heap) (k : Nat) (c : Str) (fs : List Str) : Prop where
  ex : ∃ (C fI : Addr) (fd : FuncData) (ps : List Str), mg c = some (.ref C) ∧ OexC K C ∧ XFree K C fs ∧ PySem.W.findIn K (.ref C) "__init__" = some (some (.ref fI)) ∧ PySem.W.typeIn K (.ref fI) = some (.type "function") ∧
    FnOk P w K mg base (L2.CX P w) k fI fd ps (spX K fs) ∧ Binds K fd ps []
theorem RVf.zip {K : PySem.W.Frag} {mg : Str → Option Value} {F : Hp} {ι : List Addr} : ∀ (fs : List Str) {ds : List D} {vs : List V}, RVs K mg F ι ds vs → RVf K mg F ι (fs.zip ds) (fs.zip vs)
  | [], _, _, _ => .nil
  | _ :: _, _, _, .nil => .nil
  | f :: fs, _, _, .cons r t => .cons r (RVf.zip fs t)
theorem RVf.app {K : PySem.W.Frag} {mg : Str → Option Value} {F : Hp} {ι : List Addr} : ∀ {ds es : List (Str × D)} {vs us : List (Str × V)}, RVf K mg F ι ds vs → RVf K mg F ι es us → RVf K mg F ι (ds ++ es) (vs ++ us)
  | _, _, _, _, .nil, h => h
  | _, _, _, _, .cons r t, h => .cons r (RVf.app t h)
theorem RVf.rev {K : PySem.W.Frag} {mg : Str → Option Value} {F : Hp} {ι : List Addr} : ∀ {ds : List (Str × D)} {vs : List (Str × V)}, RVf K mg F ι ds vs → RVf K mg F ι ds.reverse vs.reverse
  | _, _, .nil => .nil
  | _, _, .cons r t => by
    rw [List.reverse_cons, List.reverse_cons]
    exact RVf.app (RVf.rev t) (.cons r .nil)
theorem RVf.get {K : PySem.W.Frag} {mg : Str → Option Value} {F : Hp} {ι : List Addr} {f : Str} : ∀ {ds : List (Str × D)} {vs : List (Str × V)} {d : D}, RVf K mg F ι ds vs → ds.lookup f = some d → ∃ v, vs.lookup f = some v ∧ RV K mg F ι d v
  | _, _, _, .nil, h => by cases h
  | _, _, d, .cons (f := g) r t, h => by
    rw [List.lookup_cons] at h ⊢
    cases e : f == g with
    | true => rw [e] at h; cases h; exact ⟨_, rfl, r⟩
    | false => rw [e] at h; exact RVf.get t h
def sRaise (c : Str) (fs : List Str) (a : AS) : SS := fun Γ ρ M => (a Γ ρ M).toS ρ fun ds M1 => if ds.length = fs.length then .exc c (fs.zip ds).reverse ρ M1 else .stuck
section
variable {X : Cx} {W : WX} {Γ : Calls} {a : Expr} {es : List Expr} {sr : AS} {pos p pos' : Pos}
theorem passF : Passes (L2.CX X.prog X.w) X (fun _ _ _ => False) := fun pins σ H s e s' I c => passAt (W := fun _ _ _ _ => False) takes0 σ pins H s e s' I c
theorem ss_raise {k : Nat} {c : Str} {fs : List Str} (T : XMk X.prog X.w X.K X.mg X.base k c fs) (hr : Room (k + 1) X.A) (tk : Takes X W) (ha : SA X W Γ (a :: es) sr) (hc : X.calm = true := by rfl) (hg : Gl X c := by rfl) (hz : fs.length ≤ 1000 := by decide)
    (hdb : (c == ("__debug__" : Str)) = false := by decide) (he : starEach (a :: es) X.env = (false, eval a X.env) :: starEach es X.env := by rfl) (hpl : (backTo pos (starEach es X.env)).any (·.1) = false := by rfl) :
    SSt X W Γ (.Raise (some (.Call (.Name c p) (a :: es) [] pos)) none pos') (sRaise c fs sr) := by
  obtain ⟨C, fI, fd, ps, hC, ox, fr, hi, ht, Fn, hb⟩ := T.ex
  obtain ⟨t, pt, kt⟩ := ha
  refine ⟨_, ps_raise hc tk (pmk_oex ox hi ht Fn hr hb .nil passF hg hC pt hdb he hpl), fun ρ M F ι σ H D rl er h => ?_⟩
  refine kt ρ M F ι σ H _ rl er ((OkS.bind er h).imp fun vs H1 hv => ?_)
  obtain ⟨ds, M1, F1, ι1, x1, rl1, rv1, h1⟩ := hv
  split at h1
  · rename_i hl
    refine ⟨by rw [← rv1.len, hl]; exact hz, fun a hna => ?_⟩
    refine ⟨by simp [← rv1.len, hl], a, C, vs, by simp, ox, fr, upd_same, fun dx n ne => ⟨rfl, dx, _, upd_same, (upd_ne ne).trans upd_same, ?_, ?_⟩⟩
    · rw [upd_ne ne] at n; exact n
    · rw [upd_ne ne] at n
      rw [mk_heap (C := C) hna ne]
      have x := Ext.new (o := .xd (fs.zip vs).reverse) rl1 n
      exact h1 _ _ _ σ C (some dx) x (rl1.new n) ((er.mono x1).mono x) hC (.inr ⟨dx, _, rfl, upd_same, ((RVf.zip fs rv1).rev).mono x⟩)
  · exact h1.elim
end
/-! ### exceptions: caught -/
def SR.wipe (i : Nat) : SR → SR
  | .next ρ M => .next (ρ.set i none) M
  | .brk ρ M => .brk (ρ.set i none) M
  | .cnt ρ M => .cnt (ρ.set i none) M
  | .ret d M => .ret d M
  | _ => .stuck
open Classical in
noncomputable def pickA (f : Addr → Option Addr → SR) : SR := if ∀ a d, f a d = f 0 none then f 0 none else .stuck
theorem pickA_const {f : Addr → Option Addr → SR} {r : SR} (h : ∀ a d, f a d = r) : pickA f = r := by
  unfold pickA
  rw [if_pos (fun a d => (h a d).trans (h 0 none).symm), h]
/-- the classes that the clause knows: whether it takes them -/
noncomputable def sTryAs (tb : List (Str × Bool)) (i : Nat) (b : SS) (h : Addr → Option Addr → Str → SS) : SS := fun Γ ρ M => match b Γ ρ M with
  | .exc c fs ρ1 M1 => match tb.lookup c with
    | some true => pickA fun a d => (h a d c Γ (ρ1.set i (some (.exn a d c fs))) M1).wipe i
    | some false => .exc c fs ρ1 M1
    | none => .stuck
  | r => r
theorem lookup_mem {β : Type} {c : Str} {b : β} : ∀ {tb : List (Str × β)}, tb.lookup c = some b → (c, b) ∈ tb
  | [], h => by cases h
  | (g, v) :: tb, h => by
    rw [List.lookup_cons] at h
    cases e : c == g with
    | true =>
      rw [e] at h
      cases h
      rw [beq_iff_eq] at e
      rw [e]
      exact List.mem_cons_self
    | false => rw [e] at h; exact List.mem_cons_of_mem _ (lookup_mem h)
section
variable {X : Cx} {Wout : WX} {Γ : Calls} {x n : Str} {i : Nat} {body suite : List Stmt} {b₀ : Stmt} {np pos pos' : Pos} {sb : SS} {sh : Addr → Option Addr → Str → SS} {tb : List (Str × Bool)}
theorem ss_tryAs {c : Value} (hs : X.stack = X.env :: X.outer) (hf : X.env.frame = some X.env.locals) (hN : X.N.Nodup) (hi : X.N[i]? = some n) (hln : X.env.kindOf n = some .local) (hc : Names X x c) (tk : Takes X Wout)
    (ht : ∀ q ∈ tb, ∀ C, X.mg q.1 = some (.ref C) → PySem.W.exmOne X.K (.ref C) c = some q.2)
    (hb : ∀ (W : WX) (pn : List (Addr × Obj)) (xe : Value → Shared → Prop), Takes (X.tr pn xe) W → PassesOwn (model X.prog X.w) X.A X.env xe → SSs (X.tr pn xe) W Γ body sb)
    (hsu : ∀ (a : Addr) (oe : Obj) (c : Str) (C : Addr) (d : Option Addr) (pn : List (Addr × Obj)), (c, true) ∈ tb → X.mg c = some (.ref C) → Zc (.ref C) d oe → (∃ vs, oe.data = .fields vs) → SSs (X.suite a ((a, oe) :: pn)) (fun _ _ _ _ => False) Γ (b₀ :: suite) (sh a d c)) :
    SSt X Wout Γ (.Try body [.ExceptHandler (some (.Name x np)) (some n) (b₀ :: suite) pos'] [] [] pos) (sTryAs tb i sb sh) := by
  refine ⟨_, ps_try_as (ts := fun a cls d D σ H => ∃ (c : Str) (C : Addr) (fs : List (Str × MP.D)) (ρ : MP.Env) (M : Mem) (F : Hp) (ι : List Addr), (c, true) ∈ tb ∧ X.mg c = some (.ref C) ∧ cls = .ref C ∧ Rel X.K X.mg F ι M H ∧ ER X.K X.mg F ι (ρ.set i (some (.exn a d c fs))) σ ∧ OkS X.K X.mg F ι H (sh a d c Γ (ρ.set i (some (.exn a d c fs))) M) D (fun _ _ _ _ => False))
    (tb := fun W D σ H => ∃ (ρ : MP.Env) (M : Mem) (F : Hp) (ι : List Addr), Rel X.K X.mg F ι M H ∧ ER X.K X.mg F ι ρ σ ∧ OkS X.K X.mg F ι H (sb Γ ρ M) D W) hs hf hN hi hln hc tk (fun W pn xe tk' pw => ?_) (fun a oe cls d pn hz hv => ?_), fun ρ M F ι σ H D rl er h => ?_⟩
  · obtain ⟨t, p, k⟩ := hb W pn xe tk' pw
    exact ⟨fun pins s σ H D I ⟨ρ, M, F, ι, rl, er, ok⟩ => p.run pins s σ H D I (k ρ M F ι σ H D rl er ok)⟩
  · refine ⟨fun pins s σ H D I ⟨c, C, fs, ρ, M, F, ι, hm, hC, ec, rl, er, ok⟩ => ?_⟩
    subst ec
    obtain ⟨t, p, k⟩ := hsu a oe c C d pn hm hC hz hv
    exact p.run pins s σ H D I (k _ M F ι σ H D rl er ok)
  · refine ⟨ρ, M, F, ι, rl, er, ?_⟩
    unfold sTryAs at h
    generalize sb Γ ρ M = r at h ⊢
    cases r with
    | next ρ1 M1 => exact h
    | brk ρ1 M1 => exact h
    | cnt ρ1 M1 => exact h
    | ret d M1 => exact h
    | stuck => exact h
    | exc c1 fs ρ1 M1 =>
      intro F' ι' H' σ' C d x rl' er' hC hx
      dsimp only at h
      cases e : tb.lookup c1 with
      | none => rw [e] at h; exact h.elim
      | some b =>
        rw [e] at h
        have hm := lookup_mem e
        refine ⟨b, ht _ hm C hC, fun hbt a ha => ?_, fun hbf => ?_⟩
        · subst hbt
          refine ⟨c1, C, fs, ρ1, M1, F', ι', hm, hC, rfl, rl', er'.set i ?_, ?_⟩
          · rcases hx with ⟨rfl, rfl⟩ | ⟨dx, gs, rfl, h2, h3⟩
            · exact .exn0 hC
            · exact .exn h2 hC h3
          · dsimp only at h
            unfold pickA at h
            split at h
            · rename_i hall
              rw [← hall a d] at h
              replace h := OkS.step x h
              dsimp only at h
              generalize sh a d c1 Γ (ρ1.set i (some (.exn a d c1 fs))) M1 = r at h ⊢
              cases r with
              | next ρ2 M2 => exact fun F2 ι2 H2 σ2 y rl2 er2 => h F2 ι2 H2 _ y rl2 (er2.wipe1 i)
              | brk ρ2 M2 => exact fun F2 ι2 H2 σ2 y rl2 er2 => h F2 ι2 H2 _ y rl2 (er2.wipe1 i)
              | cnt ρ2 M2 => exact fun F2 ι2 H2 σ2 y rl2 er2 => h F2 ι2 H2 _ y rl2 (er2.wipe1 i)
              | ret d2 M2 => exact h
              | exc _ _ _ _ => exact h.elim
              | stuck => exact h
            · exact h.elim
        · subst hbf
          exact OkS.step x h F' ι' H' σ' C d Ext.refl rl' er' hC hx
end
/-! ### what the suite asks of the exception -/
/-- e.f -/
def eXf (a : Addr) (d : Option Addr) (c : Str) (i : Nat) (f : Str) : ES := fun _ ρ M => match ρ[i]? with
  | some (some (.exn a' d' c' fs)) => if a' = a ∧ d' = d ∧ c' = c then R.opt (fs.lookup f) M else .stuck
  | _ => .stuck
/-- isinstance(e, T) -/
def eXis (a : Addr) (d : Option Addr) (c : Str) (i : Nat) (tb : List (Str × Bool)) : ES := fun _ ρ M => match ρ[i]? with
  | some (some (.exn a' d' c' _)) => if a' = a ∧ d' = d ∧ c' = c then R.opt ((tb.lookup c).map .bl) M else .stuck
  | _ => .stuck
section
variable {X : Cx} {W : WX} {Γ : Calls} {a C : Addr} {oe : Obj} {d : Option Addr} {pn : List (Addr × Obj)} {c : Str} {i : Nat} {pos p p1 p2 : Pos} {n f : Str}
theorem se_xf (hC : X.mg c = some (.ref C)) (hz : Zc (.ref C) d oe) (hv : ∃ vs, oe.data = .fields vs) (T : ∀ C, X.mg c = some (.ref C) → XfC X.K C ∧ PySem.W.findIn X.K (.ref C) f = some none)
    (hN : X.N[i]? = some n := by rfl) (hvis : Vis X.env.scope n := by first | exact Or.inl rfl | exact Or.inr (Or.inl rfl) | exact Or.inr (Or.inr rfl)) (hb : attributeBase (.Name n p) f X.env (eval (.Name n p) X.env) = eval (.Name n p) X.env := by rfl)
    (hd : (n == ("__debug__" : Str)) = false := by decide) (hcd : (n == ("__classdict__" : Str)) = false := by decide) : SE (X.suite a ((a, oe) :: pn)) W Γ (.Attribute (.Name n p) f pos) (eXf a d c i f) := by
  obtain ⟨T1, T2⟩ := T C hC
  refine ⟨_, pe_xf (X := X) T1 T2 hz hv (pe_var (X := X.suite a ((a, oe) :: pn)) (i := i) hN hvis hd hcd) hb, fun ρ M F ι σ H Q rl er h => ?_⟩
  unfold eXf at h
  split at h
  · rename_i a' d' c' fs e
    split at h
    · rename_i he
      obtain ⟨rfl, rfl, rfl⟩ := he
      obtain ⟨v, ev, rv⟩ := er.2 i _ e
      obtain ⟨z, hzz, kk⟩ := okopt h
      cases rv with
      | exn h1 h2 h3 =>
        obtain ⟨u, h4, h5⟩ := h3.get hzz
        exact ⟨_, ev, rfl, rfl, _, _, u, rfl, rl.sub _ _ h1, h4, q_fin kk rl h5⟩
      | exn0 _ => cases hzz
    · exact h.elim
  · exact h.elim
/-- what isinstance asks of the class of an exception -/
structure XIs (K : PySem.W.Frag) (C : Addr) : Prop where
  hcl : (PySem.W.clsIn K C).isSome = true
  hg : PySem.W.findIn K (.ref C) "__getattribute__" = some (some (.builtin "BaseException.__getattribute__"))
  hk : PySem.W.findIn K (.ref C) "__getattr__" = some none
  hs : PySem.W.subIn K (.ref C) (.type "BaseException") = some true
  ha : PySem.W.findIn K (.ref C) "__class__" = some (some (.builtin "object.__class__"))
  hn : PySem.W.specialIn K (.builtin "object.__class__") "__get__" = some (some (.builtin "getset_descriptor.__get__"))
  ht : PySem.W.takesIn K (.builtin "object.__class__") = some true
  hm : PySem.W.mroIn K C (.type "object") = some true
/-- the right-hand side of isinstance: a class of the program's own, or a built-in one -/
inductive ClsArg (X : Cx) : Str → V → Value → Prop
  | own {x : Str} {C : Addr} : X.mg x = some (.ref C) → ClsArg X x (.ref C) (.ref C)
  | ty {x : Str} {T : String} : X.mg x = none → bootBuiltins x = some (.type T) → x ≠ "__name__" → ClsArg X x (.ty T) (.type T)
theorem ClsArg.pe {x : Str} {v : V} {u : Value} (h : ClsArg X x v u) (hgx : Gl X x) (hdx : (x == ("__debug__" : Str)) = false) : PE X (.Name x p) (tC v) := by
  cases h with
  | own h => exact pe_glob (v := .ref _) hgx h rfl hdx
  | ty h hT hn => exact pe_bltn (v := .ty _) hgx h hT rfl hn hdx
theorem ClsArg.one {x : Str} {v : V} {u u' : Value} (h : ClsArg X x v u) (r : RelV v u') : u' = u := by
  cases h with
  | own h => exact r
  | ty h hT hn => exact r
def rIsX (K : PySem.W.Frag) (C a : Addr) (d : Option Addr) : List V → Hp → VK → Prop := fun xs H Q => ∃ (cv : V) (u : Value) (b : Bool), xs = [.ref a, cv] ∧ (∀ u', RelV cv u' → u' = u) ∧ (d = none ∨ ∃ dd gs, d = some dd ∧ H dd = some (.xd gs)) ∧ PySem.W.kitOne K (.ref C) u = some b ∧ Q (.bl b) H
theorem call_isX (T : XIs X.K C) (hz : Zc (.ref C) d oe) (hf : ∃ vs, oe.data = .fields vs) : CallR (X.suite a ((a, oe) :: pn)) (.builtin "isinstance") (rIsX X.K C a d) := by
  intro pins s σ H xs us Q I r h
  obtain ⟨c, cv, b, rfl, hcv, hd, e, q⟩ := h
  cases r with
  | cons rx rr =>
    cases rr with
    | cons rt rr =>
      cases rr
      cases rx
      have ec := hcv _ rt
      subst ec
      obtain ⟨hget, _⟩ := I.pin (a, oe) (List.mem_append.mpr (.inl List.mem_cons_self))
      obtain ⟨vs, hv⟩ := hf
      have J : ∃ od, PySem.W.InstAt s.heap a oe C od := by
        rcases hd with rfl | ⟨dd, gs, rfl, hdd⟩
        · exact ⟨none, hget, hz.1, by unfold PySem.W.notCls; rw [hv] <;> rfl, by rw [hz.2]; trivial⟩
        · obtain ⟨mA, hns, hr⟩ : ObjOk X.prog X.w H s.heap dd (.xd gs) := I.hok dd _ hdd
          obtain ⟨od, ho, hl⟩ := lookIn_ns hns
          exact ⟨some od, hget, hz.1, by unfold PySem.W.notCls; rw [hv] <;> rfl, by rw [hz.2]; exact ho⟩
      obtain ⟨od, J⟩ := J
      exact PySem.W.kia_one (PySem.W.kitx_exc T.hcl T.hg T.hk T.hs T.ha T.hn T.ht T.hm) I.kIn J e (fun z => nomatch z) fun tk => ⟨.bl b, H, I.kept (t' := tk) fun _ _ z => z, rfl, q⟩
theorem se_xis {x : Str} {v : V} {u : Value} {tb : List (Str × Bool)} {px : Pos} (hC : X.mg c = some (.ref C)) (hz : Zc (.ref C) d oe) (hv : ∃ vs, oe.data = .fields vs) (hm : X.mg "isinstance" = none) (A : ClsArg X x v u) (T : ∀ C, X.mg c = some (.ref C) → XIs X.K C)
    (hk : ∀ q ∈ tb, ∀ C, X.mg q.1 = some (.ref C) → PySem.W.kitOne X.K (.ref C) u = some q.2) (hgx : Gl X x := by rfl) (hg : Gl X "isinstance" := by rfl)
    (hN : X.N[i]? = some n := by rfl) (hvis : Vis X.env.scope n := by first | exact Or.inl rfl | exact Or.inr (Or.inl rfl) | exact Or.inr (Or.inr rfl))
    (hd : (n == ("__debug__" : Str)) = false := by decide) (hcd : (n == ("__classdict__" : Str)) = false := by decide) (hdx : (x == ("__debug__" : Str)) = false := by decide) (hb : bootBuiltins "isinstance" = some (.builtin "isinstance") := by decide +kernel)
    (he : starEach [.Name n p1, .Name x px] X.env = (false, eval (.Name n p1) X.env) :: starEach [.Name x px] X.env := by rfl) (he2 : starEach [.Name x px] X.env = (false, eval (.Name x px) X.env) :: starEach [] X.env := by rfl) (hpl : (backTo pos (starEach [.Name x px] X.env)).any (·.1) = false := by rfl) :
    SE (X.suite a ((a, oe) :: pn)) W Γ (.Call (.Name "isinstance" p) [.Name n p1, .Name x px] [] pos) (eXis a d c i tb) := by
  have A' : ClsArg (X.suite a ((a, oe) :: pn)) x v u := by
    cases A with
    | own h => exact .own h
    | ty h hT hn => exact .ty h hT hn
  refine ⟨_, pe_callB (call_isX (T C hC) hz hv) hg hm hb (pa_cons (pe_var (X := X.suite a ((a, oe) :: pn)) (i := i) hN hvis hd hcd) (pa_cons (A'.pe hgx hdx) pa_nil he2) he) (by decide) (by decide) he hpl, fun ρ M F ι σ H Q rl er h => ?_⟩
  unfold eXis at h
  split at h
  · rename_i a' d' c' fs e
    split at h
    · rename_i he
      obtain ⟨rfl, rfl, rfl⟩ := he
      obtain ⟨v', ev, rv⟩ := er.2 i _ e
      obtain ⟨z, hz, kk⟩ := okopt h
      obtain ⟨r, hr, rfl⟩ := Option.map_eq_some_iff.mp hz
      have hk' := hk _ (lookup_mem hr) C hC
      cases rv with
      | exn h1 h2 h3 => exact ⟨_, ev, v, u, r, rfl, fun u' q => A'.one q, .inr ⟨_, _, rfl, rl.sub _ _ h1⟩, hk', q_fin kk rl (.bl _)⟩
      | exn0 _ => exact ⟨_, ev, v, u, r, rfl, fun u' q => A'.one q, .inl rfl, hk', q_fin kk rl (.bl _)⟩
    · exact h.elim
  · exact h.elim
end
end MP
set_option maxRecDepth 100000
set_option maxHeartbeats 4000000
namespace MP
open PySem L2
/-! ### text * int -/
def repS (x : Str) (n : Int) : Str := ⟨(List.replicate n.toNat x.cps).foldl (· ++ ·) #[]⟩
theorem foldl_app_size : ∀ (l : List (Array Nat)) (a : Array Nat), (l.foldl (· ++ ·) a).size = a.size + (l.map Array.size).sum
  | [], a => by simp
  | b :: l, a => by
    rw [List.foldl_cons, foldl_app_size l (a ++ b)]
    simp only [Array.size_append, List.map_cons, List.sum_cons]
    omega
theorem foldl_app_list : ∀ (l : List (Array Nat)) (a : Array Nat), (l.foldl (· ++ ·) a).toList = a.toList ++ (l.map Array.toList).flatten
  | [], a => by simp
  | b :: l, a => by
    rw [List.foldl_cons, foldl_app_list l (a ++ b)]
    simp
theorem rep_len (x : Str) (n : Nat) : (repS x (n : Int)).length = x.length * n := by
  unfold repS Str.length
  rw [foldl_app_size]
  simp [Nat.mul_comm]
def rMulS : R2 := fun x y H Q => ∃ i j, x = .str i ∧ y = .int j ∧ 2 ≤ j ∧ j < 2 ^ 40 ∧ 0 < i.length ∧ i.length * j.toNat ≤ sizeLine ∧ Q (.str (repS i j)) H
theorem op_mulS {X : Cx} : OpR X (binaryOp .Mult) rMulS := by
  intro pins s σ H x y v u Q I rx ry h
  obtain ⟨i, j, rfl, rfl, h2, h40, h0, hz, q⟩ := h
  obtain ⟨t, rfl⟩ := rx
  obtain ⟨t', rfl⟩ := ry
  have e1 : (j == 1 || i.length == 0) = false := by
    have a : (j == 1) = false := by rw [beq_eq_false_iff_ne]; omega
    have b : (i.length == 0) = false := by rw [beq_eq_false_iff_ne]; omega
    rw [a, b]; rfl
  have hb : i.length ≤ sizeLine := Nat.le_trans (Nat.le_mul_of_pos_right _ (by omega)) hz
  refine PySem.P.mul_str (by rw [decide_eq_false (by omega), decide_eq_false (by omega)]; rfl) (fun _ _ => ?_) (fun _ _ => decide_eq_false (by omega)) ?_
  · have h1 : (2 ^ 63 - 1) / j ≥ 2 ^ 22 := Int.le_ediv_of_mul_le (by omega) (by
      have : (2 : Int) ^ 22 * j ≤ 2 ^ 22 * 2 ^ 40 := Int.mul_le_mul_of_nonneg_left (by omega) (by decide)
      omega)
    by_cases hj : j ≤ 2 ^ 22
    · have h3 : (2 ^ 63 - 1) / j ≥ 2 ^ 40 := Int.le_ediv_of_mul_le (by omega) (by
        have : (2 : Int) ^ 40 * j ≤ 2 ^ 40 * 2 ^ 22 := Int.mul_le_mul_of_nonneg_left (by omega) (by decide)
        omega)
      have : (sizeLine : Nat) ≤ 2 ^ 30 := by decide
      omega
    · have h4 : i.length * 2 ^ 22 ≤ i.length * j.toNat := Nat.mul_le_mul_left _ (by omega)
      have : (sizeLine : Nat) ≤ 2 ^ 30 := by decide
      omega
  · rw [if_neg (by omega), if_neg (by rw [e1]; decide)]
    refine ⟨?_, ⟨.str (repS i j), H, I.tok _, ⟨_, rfl⟩, q⟩⟩
    have e := rep_len i j.toNat
    rw [Int.toNat_of_nonneg (by omega)] at e
    exact Nat.le_trans (Nat.le_of_eq e) hz
def dMulS : Mem → D → D → Option D := fun _ x y => match x, y with
  | .str i, .int j => if 2 ≤ j ∧ j < 2 ^ 40 ∧ 0 < i.length ∧ i.length * j.toNat ≤ sizeLine then some (.str (repS i j)) else none
  | _, _ => none
theorem o2_mulS {K : PySem.W.Frag} {mg : Str → Option Value} : O2 K mg rMulS dMulS := by
  intro F ι M H Q x y z u v rl rx ry e k
  cases x <;> cases y <;> simp only [dMulS, reduceCtorEq] at e
  split at e
  · rename_i h
    cases e; cases rx; cases ry
    exact ⟨_, _, rfl, rfl, h.1, h.2.1, h.2.2.1, h.2.2.2, q_fin k rl (.str _)⟩
  · cases e
def dMul : Mem → D → D → Option D := fun M x y => (dMulI M x y).or (dMulS M x y)
section
variable {X : Cx} {W : WX} {Γ : Calls} {a b c : Expr} {sa sb sc : ES} {pos p : Pos} {K : PySem.W.Frag} {mg : Str → Option Value}
theorem se_mulX (ha : SE X W Γ a sa) (hb : SE X W Γ b sb) : SE X W Γ (.BinOp a .Mult b pos) (e2 dMul sa sb) := se_bin (op_mul.or op_mulS) (O2.or (o2_I fun i j F ι => .int _) o2_mulS) ha hb
/-! ### methods of texts -/
def eTm (f : Str → List D → Option D) (o : ES) (a : AS) : ES := fun Γ ρ M => (o Γ ρ M).bind fun x M1 => match x with
  | .str z => (a Γ ρ M1).bind fun ys M2 => R.opt (f z ys) M2
  | _ => .stuck
def eTm0 (f : Str → Option D) (o : ES) : ES := fun Γ ρ M => (o Γ ρ M).bind fun x M1 => match x with
  | .str z => R.opt (f z) M1
  | _ => .stuck
theorem se_tm {name : Str} {id : String} {o : Expr} {so : ES} {es : List Expr} {sr : AS} {apos : Pos} {r : V → List V → Hp → VK → Prop} {f : Str → List D → Option D} (slot : Slot "str" name id) (hty : typeOf (.builtin id) = pure (.type "method_descriptor")) (hm : MtR X id r)
    (hf : ∀ F ι M H (Q : VK) z ds vs w, Rel X.K X.mg F ι M H → RVs X.K X.mg F ι ds vs → f z ds = some w → (∀ F' ι' H' v, Ext F ι H F' ι' H' → Rel X.K X.mg F' ι' M H' → RV X.K X.mg F' ι' w v → Q v H') → r (.str z) vs H Q)
    (ho : SE X W Γ o so) (ha : SA X W Γ (a :: es) sr)
    (hbase : attributeBase o name X.env (eval o X.env) = eval o X.env := by rfl)
    (hfew : ((backTo pos (starEach (a :: es) X.env)).all (fun x => !x.1) && (backToKw pos (keywordEach [] X.env)).all (fun x => x.1.isSome) && decide ((a :: es).length + ([] : List Keyword).length + (if ([] : List Keyword).isEmpty then 0 else 1) < 30)) = true := by rfl)
    (hline : (apos.endLine == pos.line) = true := by rfl) (hs : starEach (a :: es) X.env = (false, eval a X.env) :: starEach es X.env := by rfl) (hplain : (backTo pos (starEach es X.env)).any (·.1) = false := by rfl) :
    SE X W Γ (.Call (.Attribute o name apos) (a :: es) [] pos) (eTm f so sr) := by
  obtain ⟨t, q, k⟩ := ho
  obtain ⟨u, q', k'⟩ := ha
  refine ⟨_, pe_bm PySem.F.plainAttrs_str slot hty hm q q' hbase hfew hline hs hplain, fun ρ M F ι σ H Q rl er h => ?_⟩
  refine k ρ M F ι σ H _ rl er (OkG.bind h |>.imp fun x H1 hx => ?_)
  obtain ⟨d, M1, F1, ι1, x1, rl1, rv1, h1⟩ := hx
  cases rv1 with
  | str z =>
    refine ⟨rfl, ?_⟩
    refine k' ρ M1 F1 ι1 σ H1 _ rl1 (er.mono x1) (OkG.bind h1 |>.imp fun y H2 hy => ?_)
    obtain ⟨dy, M2, F2, ι2, x2, rl2, rv2, h2⟩ := hy
    obtain ⟨zz, hz, kk⟩ := okopt h2
    exact hf F2 ι2 M2 H2 Q z dy y zz rl2 rv2 hz kk
  | _ => exact h1.elim
theorem se_tm0 {name : Str} {id : String} {o : Expr} {so : ES} {apos : Pos} {r : V → List V → Hp → VK → Prop} {f : Str → Option D} (slot : Slot "str" name id) (hty : typeOf (.builtin id) = pure (.type "method_descriptor")) (hm : MtR X id r)
    (hf : ∀ F ι M H (Q : VK) z w, Rel X.K X.mg F ι M H → f z = some w → (∀ F' ι' H' v, Ext F ι H F' ι' H' → Rel X.K X.mg F' ι' M H' → RV X.K X.mg F' ι' w v → Q v H') → r (.str z) [] H Q)
    (ho : SE X W Γ o so) (hbase : attributeBase o name X.env (eval o X.env) = eval o X.env := by rfl) (hline : (apos.endLine == pos.line) = true := by rfl) : SE X W Γ (.Call (.Attribute o name apos) [] [] pos) (eTm0 f so) := by
  obtain ⟨t, q, k⟩ := ho
  refine ⟨_, pe_bm0 PySem.F.plainAttrs_str slot hty hm q hbase hline, fun ρ M F ι σ H Q rl er h => ?_⟩
  refine k ρ M F ι σ H _ rl er (OkG.bind h |>.imp fun x H1 hx => ?_)
  obtain ⟨d, M1, F1, ι1, x1, rl1, rv1, h1⟩ := hx
  cases rv1 with
  | str z =>
    obtain ⟨zz, hz, kk⟩ := okopt h1
    exact ⟨rfl, hf F1 ι1 M1 H1 Q z zz rl1 hz kk⟩
  | _ => exact h1.elim
def dCount (z : Str) (ds : List D) : Option D := match ds with
  | [.str y] => some (.int (Txt.count z y))
  | _ => none
theorem se_count {o : Expr} {so : ES} {sr : AS} {apos : Pos} (ho : SE X W Γ o so) (ha : SA X W Γ [a] sr)
    (hbase : attributeBase o "count" X.env (eval o X.env) = eval o X.env := by rfl)
    (hfew : ((backTo pos (starEach [a] X.env)).all (fun x => !x.1) && (backToKw pos (keywordEach [] X.env)).all (fun x => x.1.isSome) && decide (([a]).length + ([] : List Keyword).length + (if ([] : List Keyword).isEmpty then 0 else 1) < 30)) = true := by rfl)
    (hline : (apos.endLine == pos.line) = true := by rfl) (hs : starEach [a] X.env = (false, eval a X.env) :: starEach [] X.env := by rfl) (hplain : (backTo pos (starEach [] X.env)).any (·.1) = false := by rfl) :
    SE X W Γ (.Call (.Attribute o "count" apos) [a] [] pos) (eTm dCount so sr) := by
  refine se_tm PySem.F.slot_str_count PySem.F.type_str_count mt_count (fun F ι M H Q z ds vs w rl rv e k => ?_) ho ha hbase hfew hline hs hplain
  match ds, e with
  | [.str y], e =>
    cases e
    obtain ⟨v, rfl, r⟩ := rv.one
    cases r
    exact ⟨_, _, rfl, rfl, q_fin k rl (.int _)⟩
def dUpper (z : Str) : Option D := if z.length ≤ 5592405 then some (.str (Txt.upper z)) else none
theorem se_upper {o : Expr} {so : ES} {apos : Pos} (ho : SE X W Γ o so) (hbase : attributeBase o "upper" X.env (eval o X.env) = eval o X.env := by rfl) (hline : (apos.endLine == pos.line) = true := by rfl) :
    SE X W Γ (.Call (.Attribute o "upper" apos) [] [] pos) (eTm0 dUpper so) := by
  refine se_tm0 PySem.F.slot_str_upper PySem.F.type_str_upper mt_upper (fun F ι M H Q z w rl e k => ?_) ho hbase hline
  unfold dUpper at e
  split at e
  · cases e
    exact ⟨_, rfl, rfl, by assumption, q_fin k rl (.str _)⟩
  · cases e
/-! ### x in xs -/
def flatD : D → Bool
  | .non => true
  | .bl _ => true
  | .int _ => true
  | .str _ => true
  | _ => false
def eqFD : D → D → Bool
  | .non, .non => true
  | .bl a, .bl b => a == b
  | .bl a, .int b => (if a then 1 else 0) == b
  | .int a, .bl b => a == (if b then 1 else 0)
  | .int a, .int b => a == b
  | .str a, .str b => a == b
  | _, _ => false
theorem flat_at {F : Hp} {ι : List Addr} {d : D} {v : V} (r : RV K mg F ι d v) (h : flatD d = true) : flatV v = true := by cases r <;> first | rfl | cases h
theorem eqF_at {F : Hp} {ι : List Addr} {d e : D} {v u : V} (r : RV K mg F ι d v) (r' : RV K mg F ι e u) (h : flatD d = true) (h' : flatD e = true) : eqV v u = eqFD d e := by
  cases r <;> first | cases h; done | (cases r' <;> first | rfl | (cases h'; done))
theorem flats_at {F : Hp} {ι : List Addr} : ∀ {ds : List D} {vs : List V}, RVs K mg F ι ds vs → ds.all flatD = true → vs.all flatV = true
  | _, _, .nil, _ => rfl
  | _, _, .cons r t, h => by
    rw [List.all_cons, Bool.and_eq_true] at h ⊢
    exact ⟨flat_at r h.1, flats_at t h.2⟩
theorem inF_at {F : Hp} {ι : List Addr} {d : D} {v : V} (r : RV K mg F ι d v) (h : flatD d = true) : ∀ {ds : List D} {vs : List V}, RVs K mg F ι ds vs → ds.all flatD = true → inV v vs = ds.any fun y => eqFD y d
  | _, _, .nil, _ => rfl
  | _, _, .cons r' t, h' => by
    rw [List.all_cons, Bool.and_eq_true] at h'
    unfold inV
    rw [List.any_cons, List.any_cons, eqF_at r' r h'.1 h]
    have e := inF_at r h t h'.2
    unfold inV at e
    rw [e]
def seqOf (M : Mem) (d : D) : Option (List D) := match d with
  | .tup xs => some xs
  | d => lstOf M d
theorem seqOf_at {F : Hp} {ι : List Addr} {M : Mem} {H : Hp} {d : D} {v : V} {xs : List D} (rl : Rel K mg F ι M H) (r : RV K mg F ι d v) (h : seqOf M d = some xs) : ∃ p vs, v = .ref p ∧ (SqL K H p vs ∨ SqT K H p vs) ∧ RVs K mg F ι xs vs := by
  unfold seqOf at h
  split at h
  · cases h
    cases r with
    | tup hf hs => exact ⟨_, _, rfl, .inr (sqt_up rl hf), hs⟩
  · obtain ⟨p, vs, rfl, hp, hs⟩ := lstOf_at rl r h
    exact ⟨p, vs, rfl, .inl hp, hs⟩
def dInF (neg : Bool) : Mem → D → D → Option D := fun M x y => match seqOf M y with
  | some ys => if flatD x = true ∧ ys.all flatD = true then some (.bl (if neg then !(ys.any fun y => eqFD y x) else ys.any fun y => eqFD y x)) else none
  | none => none
theorem o2_inF {neg : Bool} : O2 K mg (rIn K neg) (dInF neg) := by
  intro F ι M H Q x y z u v rl rx ry e k
  unfold dInF at e
  split at e
  · rename_i ys hs
    split at e
    · rename_i hf
      cases e
      obtain ⟨p, vs, rfl, hp, hr⟩ := seqOf_at rl ry hs
      refine ⟨p, vs, rfl, hp, flat_at rx hf.1, flats_at hr hf.2, ?_⟩
      rw [inF_at rx hf.1 hr hf.2]
      exact q_fin k rl (.bl _)
    · cases e
  · cases e
def dInC (neg : Bool) : Mem → D → D → Option D := fun _ x y => match x, y with
  | .str i, .str z => match i.cps.toList with
    | [c] => some (.bl (if neg then !decide (c ∈ z.cps.toList) else decide (c ∈ z.cps.toList)))
    | _ => none
  | _, _ => none
theorem o2_inC : O2 K mg (fun x y H Q => ∃ (c : Nat) (z : Str), x = .str ⟨#[c]⟩ ∧ y = .str z ∧ Q (.bl (decide (c ∈ z.cps.toList))) H) (dInC false) := by
  intro F ι M H Q x y z u v rl rx ry e k
  cases x <;> cases y <;> simp only [dInC, reduceCtorEq] at e
  split at e
  · rename_i i w _ c hc
    cases e; cases rx; cases ry
    exact ⟨c, w, by rw [show i = ⟨#[c]⟩ from by cases i; rename_i a; cases a; cases hc; rfl], rfl, by simpa using q_fin k rl (.bl _)⟩
  · cases e
theorem o2_notInC : O2 K mg (fun x y H Q => ∃ (c : Nat) (z : Str), x = .str ⟨#[c]⟩ ∧ y = .str z ∧ Q (.bl (!decide (c ∈ z.cps.toList))) H) (dInC true) := by
  intro F ι M H Q x y z u v rl rx ry e k
  cases x <;> cases y <;> simp only [dInC, reduceCtorEq] at e
  split at e
  · rename_i i w _ c hc
    cases e; cases rx; cases ry
    exact ⟨c, w, by rw [show i = ⟨#[c]⟩ from by cases i; rename_i a; cases a; cases hc; rfl], rfl, by simpa using q_fin k rl (.bl _)⟩
  · cases e
def dInD (neg : Bool) : Mem → D → D → Option D := fun M x y => match lstOf M y, toPy M x with
  | some ys, some a => match toPys M ys with
    | some bs => if SeqAt.shaped a = true ∧ SeqAt.shaped (.list bs) = true then some (.bl (if neg then !(bs.any fun z => PyData.eqv z a) else bs.any fun z => PyData.eqv z a)) else none
    | none => none
  | _, _ => none
theorem inD_cases {neg : Bool} {M : Mem} {x y z : D} (e : dInD neg M x y = some z) : ∃ ys a bs, lstOf M y = some ys ∧ toPy M x = some a ∧ toPys M ys = some bs ∧ SeqAt.shaped a = true ∧ SeqAt.shaped (.list bs) = true ∧ z = .bl (if neg then !(bs.any fun z => PyData.eqv z a) else bs.any fun z => PyData.eqv z a) := by
  unfold dInD at e
  split at e
  · rename_i ys a h1 h2
    split at e
    · rename_i bs h3
      split at e
      · rename_i h4
        cases e
        exact ⟨ys, a, bs, h1, h2, h3, h4.1, h4.2, rfl⟩
      · cases e
    · cases e
  · cases e
theorem o2_inD : O2 K mg (rInD K) (dInD false) := by
  intro F ι M H Q x y z u v rl rx ry e k
  obtain ⟨ys, a, bs, h1, h2, h3, h4, h5, rfl⟩ := inD_cases e
  obtain ⟨p, vs, rfl, hp, hs⟩ := lstOf_at rl ry h1
  exact ⟨a, bs, toPy_dp rl rx h2, .lst hp (toPys_dp rl hs h3), h4, h5, q_fin k rl (.bl _)⟩
theorem o2_notInD : O2 K mg (rNotInD K) (dInD true) := by
  intro F ι M H Q x y z u v rl rx ry e k
  obtain ⟨ys, a, bs, h1, h2, h3, h4, h5, rfl⟩ := inD_cases e
  obtain ⟨p, vs, rfl, hp, hs⟩ := lstOf_at rl ry h1
  exact ⟨a, bs, toPy_dp rl rx h2, .lst hp (toPys_dp rl hs h3), h4, h5, q_fin k rl (.bl _)⟩
def dIn (neg : Bool) : Mem → D → D → Option D := fun M x y => (dInC neg M x y).or ((dInF neg M x y).or (dInD neg M x y))
abbrev rIn' (K : PySem.W.Frag) : R2 := fun x y H Q => (∃ (c : Nat) (z : Str), x = .str ⟨#[c]⟩ ∧ y = .str z ∧ Q (.bl (decide (c ∈ z.cps.toList))) H) ∨ (rIn K false x y H Q ∨ rInD K x y H Q)
abbrev rNotIn' (K : PySem.W.Frag) : R2 := fun x y H Q => (∃ (c : Nat) (z : Str), x = .str ⟨#[c]⟩ ∧ y = .str z ∧ Q (.bl (!decide (c ∈ z.cps.toList))) H) ∨ (rIn K true x y H Q ∨ rNotInD K x y H Q)
theorem op_in' (hu : X.A.units + 65 < cLine) : OpR X (compareOp .In) (rIn' X.K) := op_in_sign.or (op_in_seq.or (op_inD hu))
theorem op_notIn' (hu : X.A.units + 65 < cLine) : OpR X (compareOp .NotIn) (rNotIn' X.K) := op_notIn_sign.or (op_notIn_seq.or (op_notInD hu))
theorem o2_in : O2 K mg (rIn' K) (dIn false) := o2_inC.or (o2_inF.or o2_inD)
theorem o2_notIn : O2 K mg (rNotIn' K) (dIn true) := o2_notInC.or (o2_inF.or o2_notInD)
theorem se_in (hu : X.A.units + 65 < cLine) (ha : SE X W Γ a sa) (hb : SE X W Γ b sb) (hm : behindInMarks .In b = false := by rfl) : SE X W Γ (.Compare a [.In] [b] pos) (e2 (dIn false) sa sb) := se_cmp (op_in' hu) o2_in ha hb hm
theorem se_notIn (hu : X.A.units + 65 < cLine) (ha : SE X W Γ a sa) (hb : SE X W Γ b sb) (hm : behindInMarks .NotIn b = false := by rfl) : SE X W Γ (.Compare a [.NotIn] [b] pos) (e2 (dIn true) sa sb) := se_cmp (op_notIn' hu) o2_notIn ha hb hm
theorem st_in (hu : X.A.units + 65 < cLine) (ha : SE X W Γ a sa) (hb : SE X W Γ b sb) (hm : behindInMarks .In b = false := by rfl) : ST X W Γ (.Compare a [.In] [b] pos) (tVal (e2 (dIn false) sa sb)) := st_cmp (op_in' hu) o2_in ha hb hm
theorem st_notIn (hu : X.A.units + 65 < cLine) (ha : SE X W Γ a sa) (hb : SE X W Γ b sb) (hm : behindInMarks .NotIn b = false := by rfl) : ST X W Γ (.Compare a [.NotIn] [b] pos) (tVal (e2 (dIn true) sa sb)) := st_cmp (op_notIn' hu) o2_notIn ha hb hm
/-! ### min, max of two -/
def f2I (g : Int → Int → D) : Mem → List D → Option D := fun _ xs => match xs with
  | [.int i, .int j] => some (g i j)
  | _ => none
def dMax2 := f2I fun i j => .int (if j > i then j else i)
def dMin2 := f2I fun i j => .int (if j < i then j else i)
theorem o1_f2I {g : Int → Int → V} {g' : Int → Int → D} (hg : ∀ i j F ι, RV K mg F ι (g' i j) (g i j)) : O1 K mg (fun xs H Q => ∃ i j, xs = [.int i, .int j] ∧ Q (g i j) H) (f2I g') := by
  intro F ι M H Q x z u rl rx e k
  match x, e with
  | [.int i, .int j], e =>
    cases e
    obtain ⟨v, w, rfl, r1, r2⟩ := rx.two
    cases r1; cases r2
    exact ⟨i, j, rfl, q_fin k rl (hg i j F ι)⟩
theorem boot_min' : bootBuiltins "min" = some (.builtin "min") := by decide +kernel
theorem se_max2 {sr : AS} (hc : X.calm = true) (hm : X.mg "max" = none) (ha : SA X W Γ [a, b] sr) (hg : Gl X "max" := by rfl) (he : starEach [a, b] X.env = (false, eval a X.env) :: starEach [b] X.env := by rfl) (hpl : (backTo pos (starEach [b] X.env)).any (·.1) = false := by rfl) : SE X W Γ (.Call (.Name "max" p) [a, b] [] pos) (eB dMax2 sr) :=
  se_callB (call_max2 hc) (o1_f2I fun i j F ι => .int _) hm boot_max' ha hg (by decide) (by decide) he hpl
theorem se_min2 {sr : AS} (hc : X.calm = true) (hm : X.mg "min" = none) (ha : SA X W Γ [a, b] sr) (hg : Gl X "min" := by rfl) (he : starEach [a, b] X.env = (false, eval a X.env) :: starEach [b] X.env := by rfl) (hpl : (backTo pos (starEach [b] X.env)).any (·.1) = false := by rfl) : SE X W Γ (.Call (.Name "min" p) [a, b] [] pos) (eB dMin2 sr) :=
  se_callB (call_min2 hc) (o1_f2I fun i j F ι => .int _) hm boot_min' ha hg (by decide) (by decide) he hpl
/-! ### chains -/
def eCh (f g : Mem → D → D → Option D) (a b c : ES) : ES := fun Γ ρ M => (a Γ ρ M).bind fun x M1 => (b Γ ρ M1).bind fun y M2 => match f M2 x y with
  | some (.bl true) => (c Γ ρ M2).bind fun w M3 => R.opt (g M3 y w) M3
  | some (.bl false) => .ok (.bl false) M2
  | _ => .stuck
theorem run_ch {ta tb tc : TE} {f g : Mem → D → D → Option D} {r r' : R2} (ha : ∀ ρ M F ι σ H Q, Rel X.K X.mg F ι M H → ER X.K X.mg F ι ρ σ → OkE X.K X.mg F ι H (sa Γ ρ M) Q (WE W σ) → ta σ H Q)
    (hb : ∀ ρ M F ι σ H Q, Rel X.K X.mg F ι M H → ER X.K X.mg F ι ρ σ → OkE X.K X.mg F ι H (sb Γ ρ M) Q (WE W σ) → tb σ H Q) (hc : ∀ ρ M F ι σ H Q, Rel X.K X.mg F ι M H → ER X.K X.mg F ι ρ σ → OkE X.K X.mg F ι H (sc Γ ρ M) Q (WE W σ) → tc σ H Q) (hf : O2 X.K X.mg r f) (hg : O2 X.K X.mg r' g) :
    ∀ ρ M F ι σ H Q, Rel X.K X.mg F ι M H → ER X.K X.mg F ι ρ σ → OkE X.K X.mg F ι H (eCh f g sa sb sc Γ ρ M) Q (WE W σ) → tChain r r' ta tb tc σ H Q := by
  intro ρ M F ι σ H Q rl er h
  refine ha ρ M F ι σ H _ rl er (OkG.bind h |>.imp fun v H1 hv => ?_)
  obtain ⟨d, M1, F1, ι1, x1, rl1, rv1, h1⟩ := hv
  refine hb ρ M1 F1 ι1 σ H1 _ rl1 (er.mono x1) (OkG.bind h1 |>.imp fun u H2 hu => ?_)
  obtain ⟨e, M2, F2, ι2, x2, rl2, rv2, h2⟩ := hu
  split at h2
  · rename_i hz
    refine hf F2 ι2 M2 H2 _ d e _ v u rl2 (rv1.mono x2) rv2 hz fun F3 ι3 H3 w x3 rl3 rw3 => ?_
    cases rw3
    refine ⟨true, rfl, ?_⟩
    rw [if_pos rfl]
    refine hc ρ M2 F3 ι3 σ H3 _ rl3 (((er.mono x1).mono x2).mono x3) (OkG.bind (OkG.step x3 h2) |>.imp fun w4 H4 h4 => ?_)
    obtain ⟨d4, M4, F4, ι4, x4, rl4, rv4, h4⟩ := h4
    obtain ⟨z, hz4, kk⟩ := okopt h4
    exact hg F4 ι4 M4 H4 Q e d4 z u w4 rl4 ((rv2.mono x3).mono x4) rv4 hz4 kk
  · rename_i hz
    refine hf F2 ι2 M2 H2 _ d e _ v u rl2 (rv1.mono x2) rv2 hz fun F3 ι3 H3 w x3 rl3 rw3 => ?_
    cases rw3
    refine ⟨false, rfl, ?_⟩
    rw [if_neg Bool.false_ne_true]
    exact (OkG.step x3 h2).ok rl3 (.bl false)
  · exact h2.elim
theorem se_ch {op op' : CmpOp} {r r' : R2} {f g : Mem → D → D → Option D} (ho : OpR X (compareOp op) r) (ho' : OpR X (compareOp op') r') (hf : O2 X.K X.mg r f) (hg : O2 X.K X.mg r' g) (ha : SE X W Γ a sa) (hb : SE X W Γ b sb) (hc : SE X W Γ c sc)
    (hm : lastMarks [op, op'] [b, c] = false := by with_unfolding_all rfl) : SE X W Γ (.Compare a [op, op'] [b, c] pos) (eCh f g sa sb sc) := by
  obtain ⟨ta, pa, ka⟩ := ha
  obtain ⟨tb, pb, kb⟩ := hb
  obtain ⟨tc, pc, kc⟩ := hc
  exact ⟨_, pe_chain ho ho' pa pb pc hm, run_ch ka kb kc hf hg⟩
theorem st_ch {op op' : CmpOp} {r r' : R2} {f g : Mem → D → D → Option D} (ho : OpR X (compareOp op) r) (ho' : OpR X (compareOp op') r') (hf : O2 X.K X.mg r f) (hg : O2 X.K X.mg r' g) (ha : SE X W Γ a sa) (hb : SE X W Γ b sb) (hc : SE X W Γ c sc)
    (hm : lastMarks [op, op'] [b, c] = false := by with_unfolding_all rfl) : ST X W Γ (.Compare a [op, op'] [b, c] pos) (tVal (eCh f g sa sb sc)) := by
  obtain ⟨ta, pa, ka⟩ := ha
  obtain ⟨tb, pb, kb⟩ := hb
  obtain ⟨tc, pc, kc⟩ := hc
  exact ⟨_, pt_chain ho ho' pa pb pc hm, runV (run_ch ka kb kc hf hg)⟩
theorem se_lele (ha : SE X W Γ a sa) (hb : SE X W Γ b sb) (hc : SE X W Γ c sc) (hm : lastMarks [.LtE, .LtE] [b, c] = false := by with_unfolding_all rfl) : SE X W Γ (.Compare a [.LtE, .LtE] [b, c] pos) (eCh dLe dLe sa sb sc) :=
  se_ch op_le op_le (o2_I0 fun i j F ι => .bl _) (o2_I0 fun i j F ι => .bl _) ha hb hc hm
theorem st_lele (ha : SE X W Γ a sa) (hb : SE X W Γ b sb) (hc : SE X W Γ c sc) (hm : lastMarks [.LtE, .LtE] [b, c] = false := by with_unfolding_all rfl) : ST X W Γ (.Compare a [.LtE, .LtE] [b, c] pos) (tVal (eCh dLe dLe sa sb sc)) :=
  st_ch op_le op_le (o2_I0 fun i j F ι => .bl _) (o2_I0 fun i j F ι => .bl _) ha hb hc hm
end
/-! ### tables of facts -/
theorem et_nil {K : PySem.W.Frag} {mg : Str → Option Value} {cv : Value} : ∀ q ∈ ([] : List (Str × Bool)), ∀ C, mg q.1 = some (.ref C) → PySem.W.exmOne K (.ref C) cv = some q.2 := fun _ h => by simp at h
theorem et_cons {K : PySem.W.Frag} {mg : Str → Option Value} {cv : Value} {c : Str} {C : Addr} {b : Bool} {tb : List (Str × Bool)} (hC : mg c = some (.ref C)) (h : PySem.W.exmOne K (.ref C) cv = some b) (r : ∀ q ∈ tb, ∀ C, mg q.1 = some (.ref C) → PySem.W.exmOne K (.ref C) cv = some q.2) : ∀ q ∈ (c, b) :: tb, ∀ C, mg q.1 = some (.ref C) → PySem.W.exmOne K (.ref C) cv = some q.2 := by
  intro q hq C' hc
  rcases List.mem_cons.mp hq with rfl | hq
  · rw [hC] at hc
    cases hc
    exact h
  · exact r q hq C' hc
theorem kt_nil {K : PySem.W.Frag} {mg : Str → Option Value} {cv : Value} : ∀ q ∈ ([] : List (Str × Bool)), ∀ C, mg q.1 = some (.ref C) → PySem.W.kitOne K (.ref C) cv = some q.2 := fun _ h => by simp at h
theorem kt_cons {K : PySem.W.Frag} {mg : Str → Option Value} {cv : Value} {c : Str} {C : Addr} {b : Bool} {tb : List (Str × Bool)} (hC : mg c = some (.ref C)) (h : PySem.W.kitOne K (.ref C) cv = some b) (r : ∀ q ∈ tb, ∀ C, mg q.1 = some (.ref C) → PySem.W.kitOne K (.ref C) cv = some q.2) : ∀ q ∈ (c, b) :: tb, ∀ C, mg q.1 = some (.ref C) → PySem.W.kitOne K (.ref C) cv = some q.2 := by
  intro q hq C' hc
  rcases List.mem_cons.mp hq with rfl | hq
  · rw [hC] at hc
    cases hc
    exact h
  · exact r q hq C' hc
structure XGood (K : PySem.W.Frag) (C : Addr) (fs : List Str) : Prop where
  xf : XfC K C
  is : XIs K C
  nf : ∀ f ∈ fs, PySem.W.findIn K (.ref C) f = some none
theorem XGood.sub {K : PySem.W.Frag} {C : Addr} {fs gs : List Str} (h : XGood K C fs) (hs : ∀ f ∈ gs, f ∈ fs) : XGood K C gs := ⟨h.xf, h.is, fun f hf => h.nf f (hs f hf)⟩
theorem xg_nil {K : PySem.W.Frag} {mg : Str → Option Value} {fs : List Str} : ∀ c ∈ ([] : List Str), ∀ C, mg c = some (.ref C) → XGood K C fs := fun _ h => by simp at h
theorem xg_cons {K : PySem.W.Frag} {mg : Str → Option Value} {fs : List Str} {c : Str} {C : Addr} {cs : List Str} (hC : mg c = some (.ref C)) (h : XGood K C fs) (r : ∀ c ∈ cs, ∀ C, mg c = some (.ref C) → XGood K C fs) : ∀ x ∈ c :: cs, ∀ C, mg x = some (.ref C) → XGood K C fs := by
  intro q hq C' hc
  rcases List.mem_cons.mp hq with rfl | hq
  · rw [hC] at hc
    cases hc
    exact h
  · exact r q hq C' hc
theorem xg_of {K : PySem.W.Frag} {mg : Str → Option Value} {fs : List Str} {cs : List Str} {tb : List (Str × Bool)} (r : ∀ c ∈ cs, ∀ C, mg c = some (.ref C) → XGood K C fs) (h : ∀ q ∈ tb, q.2 = true → q.1 ∈ cs := by decide) : ∀ c, (c, true) ∈ tb → ∀ C, mg c = some (.ref C) → XGood K C fs :=
  fun c hc => r c (h (c, true) hc rfl)
theorem ml_nil {p : Str → Prop} : ∀ f ∈ ([] : List Str), p f := fun _ h => by simp at h
theorem ml_cons {p : Str → Prop} {f : Str} {fs : List Str} (h : p f) (r : ∀ f ∈ fs, p f) : ∀ g ∈ f :: fs, p g := by
  intro g hg
  rcases List.mem_cons.mp hg with rfl | hg
  · exact h
  · exact r g hg
theorem exm_mk {K : PySem.W.Frag} {C : Addr} {cls : Value} {b : Bool} (h1 : PySem.W.subIn K (.ref C) (.type "BaseException") = some true) (hd : PySem.W.hasDictIn K C = true) (ht : PySem.W.typeIn K (.ref C) = some (.type "type")) (h4 : PySem.W.subIn K cls (.ref C) = some b) : PySem.W.exmOne K cls (.ref C) = some b :=
  PySem.W.exm_ref h1 hd ht h4
theorem _root_.L2.Room.units1 {k : Nat} {A : Around} (r : Room k A) : A.units + 65 < cLine := by have := r.un; omega
end MP
set_option maxRecDepth 100000
set_option maxHeartbeats 4000000
namespace MP
open PySem L2
section
variable (Γ : Calls) (ρ : MP.Env) (M : Mem)
def kRaise (c : Str) (fs : List Str) (ρ : MP.Env) (ds : List D) (M : Mem) : SR := if ds.length = fs.length then .exc c (fs.zip ds).reverse ρ M else .stuck
@[simp] theorem kRaise1 (c f : Str) (d : D) : kRaise c [f] ρ [d] M = .exc c [(f, d)] ρ M := rfl
@[simp] theorem kRaise2 (c f g : Str) (d e : D) : kRaise c [f, g] ρ [d, e] M = .exc c [(g, e), (f, d)] ρ M := rfl
@[simp] theorem kRaise3 (c f g h : Str) (d e k : D) : kRaise c [f, g, h] ρ [d, e, k] M = .exc c [(h, k), (g, e), (f, d)] ρ M := rfl
@[simp] theorem x_raise (c : Str) (fs : List Str) (a : AS) : sRaise c fs a Γ ρ M = (a Γ ρ M).toS ρ (kRaise c fs ρ) := rfl
theorem tryAs_next {tb : List (Str × Bool)} {i : Nat} {b : SS} {h : Addr → Option Addr → Str → SS} {ρ1 : MP.Env} {M1 : Mem} (e : b Γ ρ M = .next ρ1 M1) : sTryAs tb i b h Γ ρ M = .next ρ1 M1 := by unfold sTryAs; rw [e]
theorem tryAs_ret {tb : List (Str × Bool)} {i : Nat} {b : SS} {h : Addr → Option Addr → Str → SS} {d : D} {M1 : Mem} (e : b Γ ρ M = .ret d M1) : sTryAs tb i b h Γ ρ M = .ret d M1 := by unfold sTryAs; rw [e]
theorem tryAs_exc {tb : List (Str × Bool)} {i : Nat} {b : SS} {h : Addr → Option Addr → Str → SS} {c : Str} {fs : List (Str × D)} {ρ1 : MP.Env} {M1 : Mem} {r : SR} (e : b Γ ρ M = .exc c fs ρ1 M1) (ht : tb.lookup c = some true)
    (hr : ∀ a d, (h a d c Γ (ρ1.set i (some (.exn a d c fs))) M1).wipe i = r) : sTryAs tb i b h Γ ρ M = r := by
  unfold sTryAs
  rw [e]
  dsimp only
  rw [ht]
  exact pickA_const hr
theorem tryAs_pass {tb : List (Str × Bool)} {i : Nat} {b : SS} {h : Addr → Option Addr → Str → SS} {c : Str} {fs : List (Str × D)} {ρ1 : MP.Env} {M1 : Mem} (e : b Γ ρ M = .exc c fs ρ1 M1) (ht : tb.lookup c = some false) : sTryAs tb i b h Γ ρ M = .exc c fs ρ1 M1 := by
  unfold sTryAs
  rw [e]
  dsimp only
  rw [ht]
@[simp] theorem wipe_next' (i : Nat) : (SR.next ρ M).wipe i = .next (ρ.set i none) M := rfl
@[simp] theorem wipe_ret' (i : Nat) (d : D) : (SR.ret d M).wipe i = .ret d M := rfl
def xfO (a : Addr) (d : Option Addr) (c f : Str) (o : Option (Option D)) (M : Mem) : R D := match o with
  | some (some (.exn a' d' c' fs)) => if a' = a ∧ d' = d ∧ c' = c then R.opt (fs.lookup f) M else .stuck
  | _ => .stuck
@[simp] theorem xfO_some (a : Addr) (d : Option Addr) (c f : Str) (fs : List (Str × D)) : xfO a d c f (some (some (.exn a d c fs))) M = R.opt (fs.lookup f) M := if_pos ⟨rfl, rfl, rfl⟩
@[simp] theorem x_xf (a : Addr) (d : Option Addr) (c : Str) (i : Nat) (f : Str) : eXf a d c i f Γ ρ M = xfO a d c f ρ[i]? M := rfl
def xiO (a : Addr) (d : Option Addr) (c : Str) (tb : List (Str × Bool)) (o : Option (Option D)) (M : Mem) : R D := match o with
  | some (some (.exn a' d' c' _)) => if a' = a ∧ d' = d ∧ c' = c then R.opt ((tb.lookup c).map .bl) M else .stuck
  | _ => .stuck
@[simp] theorem xiO_some (a : Addr) (d : Option Addr) (c : Str) (tb : List (Str × Bool)) (fs : List (Str × D)) : xiO a d c tb (some (some (.exn a d c fs))) M = R.opt ((tb.lookup c).map .bl) M := if_pos ⟨rfl, rfl, rfl⟩
@[simp] theorem x_xis (a : Addr) (d : Option Addr) (c : Str) (i : Nat) (tb : List (Str × Bool)) : eXis a d c i tb Γ ρ M = xiO a d c tb ρ[i]? M := rfl
@[simp] theorem lk_same {β : Type} (c : Str) (b : β) (r : List (Str × β)) : List.lookup c ((c, b) :: r) = some b := by simp [List.lookup]
theorem lk_ne {β : Type} {c c' : Str} (b : β) (r : List (Str × β)) (h : ¬ c = c') : List.lookup c ((c', b) :: r) = List.lookup c r := by
  have : (c == c') = false := beq_eq_false_iff_ne.mpr h
  simp [List.lookup, this]
def kTm1 (f : Str → List D → Option D) (z : Str) (ys : List D) (M : Mem) : R D := R.opt (f z ys) M
@[simp] theorem kTm1_eq (f : Str → List D → Option D) (z : Str) (ys : List D) : kTm1 f z ys M = R.opt (f z ys) M := rfl
def kTm (f : Str → List D → Option D) (a : AS) (Γ : Calls) (ρ : MP.Env) (x : D) (M : Mem) : R D := match x with
  | .str z => (a Γ ρ M).bind (kTm1 f z)
  | _ => .stuck
@[simp] theorem kTm_str (f : Str → List D → Option D) (a : AS) (z : Str) : kTm f a Γ ρ (.str z) M = (a Γ ρ M).bind (kTm1 f z) := rfl
@[simp] theorem x_tm (f : Str → List D → Option D) (o : ES) (a : AS) : eTm f o a Γ ρ M = (o Γ ρ M).bind (kTm f a Γ ρ) := by
  unfold eTm kTm kTm1
  rfl
def kTm0 (f : Str → Option D) (x : D) (M : Mem) : R D := match x with
  | .str z => R.opt (f z) M
  | _ => .stuck
@[simp] theorem kTm0_str (f : Str → Option D) (z : Str) : kTm0 f (.str z) M = R.opt (f z) M := rfl
@[simp] theorem x_tm0 (f : Str → Option D) (o : ES) : eTm0 f o Γ ρ M = (o Γ ρ M).bind (kTm0 f) := by
  unfold eTm0 kTm0
  rfl
@[simp] theorem dCount_1 (z y : Str) : dCount z [.str y] = some (.int (Txt.count z y)) := rfl
def kCh2 (g : Mem → D → D → Option D) (c : ES) (Γ : Calls) (ρ : MP.Env) (y : D) (o : Option D) (M : Mem) : R D := match o with
  | some (.bl true) => (c Γ ρ M).bind (kOp1 g y)
  | some (.bl false) => .ok (.bl false) M
  | _ => .stuck
@[simp] theorem kCh2_t (g : Mem → D → D → Option D) (c : ES) (y : D) : kCh2 g c Γ ρ y (some (.bl true)) M = (c Γ ρ M).bind (kOp1 g y) := rfl
@[simp] theorem kCh2_f (g : Mem → D → D → Option D) (c : ES) (y : D) : kCh2 g c Γ ρ y (some (.bl false)) M = .ok (.bl false) M := rfl
def kCh1 (f g : Mem → D → D → Option D) (c : ES) (Γ : Calls) (ρ : MP.Env) (x y : D) (M : Mem) : R D := kCh2 g c Γ ρ y (f M x y) M
@[simp] theorem kCh1_eq (f g : Mem → D → D → Option D) (c : ES) (x y : D) : kCh1 f g c Γ ρ x y M = kCh2 g c Γ ρ y (f M x y) M := rfl
def kCh (f g : Mem → D → D → Option D) (b c : ES) (Γ : Calls) (ρ : MP.Env) (x : D) (M : Mem) : R D := (b Γ ρ M).bind (kCh1 f g c Γ ρ x)
@[simp] theorem kCh_eq (f g : Mem → D → D → Option D) (b c : ES) (x : D) : kCh f g b c Γ ρ x M = (b Γ ρ M).bind (kCh1 f g c Γ ρ x) := rfl
@[simp] theorem x_ch (f g : Mem → D → D → Option D) (a b c : ES) : eCh f g a b c Γ ρ M = (a Γ ρ M).bind (kCh f g b c Γ ρ) := by
  unfold eCh kCh kCh1 kCh2
  rfl
theorem mulS_ok {x : Str} {n : Int} (h : 2 ≤ n ∧ n < 2 ^ 40 ∧ 0 < x.length ∧ x.length * n.toNat ≤ sizeLine) : dMul M (.str x) (.int n) = some (.str (repS x n)) := by
  show Option.or none (if 2 ≤ n ∧ n < 2 ^ 40 ∧ 0 < x.length ∧ x.length * n.toNat ≤ sizeLine then some (D.str (repS x n)) else none) = _
  rw [if_pos h]
  rfl
@[simp] theorem dMax2_eq (i j : Int) : dMax2 M [.int i, .int j] = some (.int (if j > i then j else i)) := rfl
@[simp] theorem dMin2_eq (i j : Int) : dMin2 M [.int i, .int j] = some (.int (if j < i then j else i)) := rfl
end
theorem rep_tl (x : Str) (n : Nat) : TL.tl (repS x (n : Int)) = (List.replicate n (TL.tl x)).flatten := by
  unfold repS
  show ((List.replicate n x.cps).foldl (· ++ ·) #[]).toList = _
  rw [foldl_app_list]
  simp
end MP
set_option maxRecDepth 100000
set_option maxHeartbeats 4000000
namespace MP
open PySem L2
/-! ### defs with a star parameter behind n plain ones: the meaning gets the tuple as its last argument -/
def spS (K : PySem.W.Frag) (mg : Str → Option Value) (g : List D → Mem → R D) (n : Nat) : Sp := fun vs H Q E => ∃ ws rest, vs = ws ++ rest ∧ ws.length = n ∧ rest.length ≤ sizeLine ∧ ∀ p, H p = none → spI K mg g (n + 1) (ws ++ [V.ref p]) (upd H p (.tup rest)) Q E
structure FnS (P : Program) (w : World) (K : PySem.W.Frag) (mg : Str → Option Value) (base : Heap) (k : Nat) (f : Addr) (n : Nat) (g : List D → Mem → R D) : Prop where
  ex : FnR P w K mg base (L2.CX P w) k f (spS K mg g n)
  kp : PySem.W.keepIn K (.ref f) = true
  fn : PySem.W.isFn K (.ref f) = true
structure FunS (K : PySem.W.Frag) (x qual : Str) (st : Stmt) (f : Addr) (ps : List Str) (pv : Str) : Prop where
  ex : ∃ fd : FuncData, Fun K x qual st f fd ∧ ∀ us rest : List Value, us.length = ps.length → bindArgs fd ⟨us ++ rest, []⟩ = (newTuple rest >>= fun t => pure (ps.zip us ++ [(pv, t)]))
  fn : PySem.W.isFn K (.ref f) = true
section
variable {P : Program} {w : World} {K : PySem.W.Frag} {mg : Str → Option Value} {base : Heap} {Γ : Calls} {x qual pv : Str} {st : Stmt} {f : Addr} {N ps : List Str} {k : Nat} {sem : SS}
theorem fnS_ok (u : FunS K x qual st f ps pv) (S : FnScope N (ps ++ [pv]) (defScope st)) (body : ∀ (cdv : Value) (A : Around) (outer : List PySem.Env) (s : Shared) (H : Hp) (E : XK), Room k (A.deeper (PyProof.Rows.envOfC qual (defScope st) s.heap.objs.size f cdv)) →
      SSs (cxOf (L2.CX P w) P w K mg base N qual (defScope st) f cdv A outer s H E) (WD E) Γ (defBody st) sem) : FnS P w K mg base (k + 1) f ps.length (runBody sem N.length Γ) := by
  obtain ⟨fd, F, b⟩ := u.ex
  obtain ⟨oc, od, kV, doc, pm, an, cdv, ct, osl, rfl, lk, hcd⟩ := F.ex
  refine ⟨StX.fn_star (sp := spI K mg (runBody sem N.length Γ) (ps.length + 1)) lk hcd S StX.cxUp b (fun A outer s H vs Q E hr h => ?_), F.kp, u.fn⟩
  obtain ⟨hl, F, ι, M, ds, rl, rv, h⟩ := h
  obtain ⟨t, p, kk⟩ := body cdv A outer s H E hr
  exact ⟨t, p, kk _ M F ι _ H _ rl (er_start rv) (body_ok h)⟩
theorem fnS_st (u : FunS K x qual st f ps pv) : FnS P w K mg base 0 f ps.length (fun _ _ => .stuck) := by
  obtain ⟨fd, F, b⟩ := u.ex
  refine ⟨fun A outer s H us vs Q E hr e0 r hsp => ?_, F.kp, u.fn⟩
  obtain ⟨ws, rest, ev, hl, hz, hq⟩ := hsp
  obtain ⟨_, _, _, _, _, _, _, h⟩ := hq s.heap.objs.size (e0.hok.fresh (Nat.le_refl _))
  exact h.elim
end
def aPack (a : AS) : AS := fun Γ ρ M => (a Γ ρ M).bind fun ds M1 => if ds.length ≤ sizeLine then .ok [.tup ds] M1 else .stuck
abbrev kMk' (x : Str) (i : Nat) (frz : Bool) (Γ : Calls) (ds : List D) (M : Mem) : R D := (Γ i (.ref M.length :: ds) (M ++ [.ins x []])).bind fun v M2 => match v with
      | .non => if frz then (match M2[M.length]? with
        | some (.ins c' fs) => .ok (.obj c' fs) (M2.set M.length .dead)
        | _ => .stuck) else .ok (.ref M.length) M2
      | _ => .stuck
section
variable {X : Cx} {W : WX} {Γ : Calls} {e a b : Expr} {se sa sb : ES} {pos p : Pos} {pins : List (Addr × Obj)} {σ : L2.St} {H : Hp} {s : Shared}
abbrev FnSX (X : Cx) (k : Nat) (f : Addr) (n : Nat) (g : List D → Mem → R D) := FnS X.prog X.w X.K X.mg X.base k f n g
theorem runMakeS {x : Str} {i : Nat} {frz : Bool} {k : Nat} {f C : Addr} {F : Hp} {ι : List Addr} {M : Mem} {ds : List D} {vs : List V} {us : List Value} {Q : VK} (G : FnSX X k f 1 (Γ i)) (Mk : Mk X.K C f) (hm : X.mg x = some (.ref C)) (hr : Room (k + 1) X.A) (tk : Takes X W) (I : Inv X pins σ H s)
    (rl : Rel X.K X.mg F ι M H) (rv : RVs X.K X.mg F ι ds vs) (hz : ds.length ≤ sizeLine) (r : Vals vs us) (h : OkE X.K X.mg F ι H (kMk' x i frz Γ [.tup ds] M) Q (WE W σ)) : wpAny (model X.prog X.w) X.A (call (.ref C) us) (EP X pins σ Q) X.xe s := by
  have hx : H (s.heap.objs.size + 1) = none := I.hok.fresh (Nat.le_succ _)
  have hdx : H s.heap.objs.size = none := I.hok.fresh (Nat.le_refl _)
  have hne : s.heap.objs.size + 1 ≠ s.heap.objs.size := Nat.succ_ne_self _
  have hx1 : upd H s.heap.objs.size (.own (s.heap.objs.size + 1)) (s.heap.objs.size + 1) = none := by rw [upd_ne hne]; exact hx
  have I2 := Inv.made (C := C) I
  have x1 : Ext F ι H F ι (upd H s.heap.objs.size (.own (s.heap.objs.size + 1))) := Ext.junk hdx
  have x2 : Ext F ι (upd H s.heap.objs.size (.own (s.heap.objs.size + 1))) F (ι ++ [s.heap.objs.size + 1]) (upd (upd H s.heap.objs.size (.own (s.heap.objs.size + 1))) (s.heap.objs.size + 1) (.ins C s.heap.objs.size [])) := Ext.alloc hx1
  have rl2 : Rel X.K X.mg F (ι ++ [s.heap.objs.size + 1]) (M ++ [.ins x []]) (upd (upd H s.heap.objs.size (.own (s.heap.objs.size + 1))) (s.heap.objs.size + 1) (.ins C s.heap.objs.size [])) := (rl.junk hdx).alloc hx1 ⟨hm, .nil⟩
  have hix : (ι ++ [s.heap.objs.size + 1])[M.length]? = some (s.heap.objs.size + 1) := by rw [← rl.len, List.getElem?_append_right (Nat.le_refl _), Nat.sub_self]; rfl
  have x3 := x1.trans x2
  have r2 : Vals (V.ref (s.heap.objs.size + 1) :: vs) (Value.ref (s.heap.objs.size + 1) :: us) := .cons rfl r
  have hsp : spS X.K X.mg (Γ i) 1 (V.ref (s.heap.objs.size + 1) :: vs) (upd (upd H s.heap.objs.size (.own (s.heap.objs.size + 1))) (s.heap.objs.size + 1) (.ins C s.heap.objs.size [])) (fun v H2 => v = .non ∧ Q (.ref (s.heap.objs.size + 1)) H2) (WE W σ) := by
    refine ⟨[V.ref (s.heap.objs.size + 1)], vs, rfl, rfl, by rw [← rv.len]; exact hz, fun q hq => ?_⟩
    have x5 := Ext.new (o := .tup vs) rl2 hq
    have rl5 := rl2.new (o := .tup vs) hq
    have x6 := x3.trans x5
    have rv5 : RVs X.K X.mg (upd F q (.tup vs)) (ι ++ [s.heap.objs.size + 1]) [.ref M.length, .tup ds] [.ref (s.heap.objs.size + 1), .ref q] := .cons (.ref hix) (.cons (.tup (SqT.of upd_same) (rv.mono x6)) .nil)
    refine ⟨rfl, _, _, _, _, rl5, rv5, (OkG.bind (OkG.step x6 h)).imp fun v H3 hv => ?_⟩
    obtain ⟨d, M3, F3, ι3, x4, rl3, rv3, h3⟩ := hv
    cases rv3 with
    | non =>
      refine ⟨rfl, ?_⟩
      have hix3 := x4.ix hix
      dsimp only at h3
      cases frz with
      | false => exact h3.ok rl3 (.ref hix3)
      | true =>
        rw [if_pos rfl] at h3
        split at h3
        · rename_i c' fs e
          obtain ⟨a, ob, ha, hfn, hob, rm⟩ := rl3.at e (by intro z; cases z)
          rw [hix3] at ha; cases ha
          cases ob <;> simp only [RM] at rm
          rename_i C2 dx2 gs
          exact h3 _ _ H3 _ (Ext.frz (o := .ins C2 dx2 gs) hix3 hfn) (rl3.frz hix3 hfn hob) (.obj upd_same rm.1 (rm.2.mono (H := H3) (H' := H3) (Ext.frz (o := .ins C2 dx2 gs) hix3 hfn)))
        · exact h3.elim
    | _ => exact h3.elim
  refine wpAny_call (make_map (f := f) I.kIn Mk.makes Mk.init (beq_iff_eq.mp Mk.fn) (codeAny_mono (G.ex _ X.stack _ _ (Value.ref (s.heap.objs.size + 1) :: us) _ _ (WE W σ) (hr.make C us []) (I2.env0.make C us []) r2 hsp) fun z s' hq' => ?_))
  cases z with
  | error e => exact passAt tk σ pins _ _ e s' I2 hq'
  | ok fl =>
    cases fl with
    | ret u =>
      obtain ⟨v, H', I3, rv', ev, q3⟩ := I2.after hq'
      subst ev
      exact ⟨rv', ⟨V.ref (s.heap.objs.size + 1), H', I3, rfl, q3⟩⟩
    | next => exact False.elim hq'
    | brk => exact False.elim hq'
    | cont => exact False.elim hq'
theorem make_pack {x : Str} {i : Nat} {frz : Bool} {sr : AS} {ρ : MP.Env} {M M1 : Mem} {ds : List D} (e : sr Γ ρ M = .ok ds M1) : eMake x i frz (aPack sr) Γ ρ M = if ds.length ≤ sizeLine then kMk' x i frz Γ [.tup ds] M1 else .stuck := by
  unfold eMake aPack
  rw [e]
  show R.bind (if ds.length ≤ sizeLine then R.ok [D.tup ds] M1 else .stuck) _ = _
  split <;> rfl
theorem se_makeS {x : Str} {i : Nat} {frz : Bool} {es : List Expr} {sr : AS} {k : Nat} {f C : Addr} (G : FnSX X k f 1 (Γ i)) (Mk : Mk X.K C f) (hm : X.mg x = some (.ref C)) (hr : Room (k + 1) X.A) (tk : Takes X W) (ha : SA X W Γ (a :: es) sr)
    (hg : Gl X x := by rfl) (hdb : (x == ("__debug__" : Str)) = false := by decide) (he : starEach (a :: es) X.env = (false, eval a X.env) :: starEach es X.env := by rfl) (hpl : (backTo pos (starEach es X.env)).any (·.1) = false := by rfl) :
    SE X W Γ (.Call (.Name x p) (a :: es) [] pos) (eMake x i frz (aPack sr)) := by
  obtain ⟨t, pt, kt⟩ := ha
  refine ⟨fun σ H Q => t σ H fun vs H1 => ∃ F ι M ds, Rel X.K X.mg F ι M H1 ∧ RVs X.K X.mg F ι ds vs ∧ ds.length ≤ sizeLine ∧ OkE X.K X.mg F ι H1 (kMk' x i frz Γ [.tup ds] M) Q (WE W σ), ⟨fun pins s σ H Q I h => ?_⟩, fun ρ M F ι σ H Q rl er h => ?_⟩
  · refine wpAny_Call_Name_kw (ld_glob I hg hm ?_ hdb)
    refine PySem.W.callWith_K (h₀ := X.base) I.ok.mod.kin Mk.kp (thn (pt.run pos pins s σ H _ I h) fun us s1 hh => ?_) he hpl
    obtain ⟨vs, H1, I1, r, F, ι, M, ds, rl, rv, hz, q⟩ := hh
    exact ⟨I1.kIn, runMakeS (frz := frz) G Mk hm hr tk I1 rl rv hz r q⟩
  · cases e : sr Γ ρ M with
    | stuck => unfold eMake aPack at h; rw [e] at h; exact h.elim
    | exc c fs M1 => exact kt ρ M F ι σ H _ rl er (by unfold eMake aPack at h; rw [e] at h ⊢; exact h)
    | ok ds M1 =>
      rw [make_pack e] at h
      split at h
      · rename_i hz
        refine kt ρ M F ι σ H _ rl er ?_
        rw [e]
        exact fun F1 ι1 H1 vs x1 rl1 rv1 => ⟨F1, ι1, M1, ds, rl1, rv1, hz, OkG.step x1 h⟩
      · exact h.elim
theorem se_makeS0 {x : Str} {i : Nat} {frz : Bool} {k : Nat} {f C : Addr} (G : FnSX X k f 1 (Γ i)) (Mk : Mk X.K C f) (hm : X.mg x = some (.ref C)) (hr : Room (k + 1) X.A) (tk : Takes X W) (hg : Gl X x := by rfl) (hdb : (x == ("__debug__" : Str)) = false := by decide) :
    SE X W Γ (.Call (.Name x p) [] [] pos) (eMake x i frz (aPack aNil)) := by
  refine ⟨fun σ H Q => ∃ F ι M, Rel X.K X.mg F ι M H ∧ OkE X.K X.mg F ι H (kMk' x i frz Γ [.tup []] M) Q (WE W σ), ⟨fun pins s σ H Q I h => ?_⟩, fun ρ M F ι σ H Q rl er h => ⟨F, ι, M, rl, ?_⟩⟩
  · obtain ⟨F, ι, M, rl, q⟩ := h
    refine wpAny_Call_Name_kw (ld_glob I hg hm ?_ hdb)
    exact PySem.W.callWith_K0 I.kIn Mk.kp (runMakeS (us := []) (frz := frz) G Mk hm hr tk I rl .nil (by simp) .nil q)
  · rw [make_pack (show aNil Γ ρ M = .ok [] M from rfl), if_pos (by simp)] at h
    exact h
/-- *e alone -/
def aStar (a : ES) : AS := fun Γ ρ M => (a Γ ρ M).bind fun x M1 => R.opt (seqOf M1 x) M1
theorem se_makeS1 {x : Str} {i : Nat} {frz : Bool} {k : Nat} {f C : Addr} {sp_ : Pos} (G : FnSX X k f 1 (Γ i)) (Mk : Mk X.K C f) (hm : X.mg x = some (.ref C)) (hr : Room (k + 1) X.A) (tk : Takes X W) (ha : SE X W Γ a sa)
    (hg : Gl X x := by rfl) (hdb : (x == ("__debug__" : Str)) = false := by decide) (hst : starEach [.Starred a sp_] X.env = [(true, eval a X.env)] := by rfl) :
    SE X W Γ (.Call (.Name x p) [.Starred a sp_] [] pos) (eMake x i frz (aPack (aStar sa))) := by
  obtain ⟨t, pt, kt⟩ := ha
  refine ⟨fun σ H Q => t σ H fun y H1 => ∃ ad vs F ι M ds, y = V.ref ad ∧ (SqT X.K H1 ad vs ∨ SqL X.K H1 ad vs) ∧ Rel X.K X.mg F ι M H1 ∧ RVs X.K X.mg F ι ds vs ∧ ds.length ≤ sizeLine ∧ OkE X.K X.mg F ι H1 (kMk' x i frz Γ [.tup ds] M) Q (WE W σ), ⟨fun pins s σ H Q I h => ?_⟩, fun ρ M F ι σ H Q rl er h => ?_⟩
  · refine wpAny_Call_Name_kw (ld_glob I hg hm ?_ hdb)
    refine PySem.W.callWith_S (h₀ := X.base) I.ok.mod.kin Mk.kp (thn (pt.run pins s σ H _ I h) fun v s1 hh => ?_) hst
    obtain ⟨y, H1, I1, ry, ad, vs, F, ι, M, ds, ey, hx, rl, rv, hz, q⟩ := hh
    subst ey
    obtain rfl : v = Value.ref ad := ry
    exact StX.star_any I1 hx fun us s2 I2 r => ⟨I2.kIn, runMakeS (frz := frz) G Mk hm hr tk I2 rl rv hz r q⟩
  · refine kt ρ M F ι σ H _ rl er ?_
    cases e : sa Γ ρ M with
    | stuck => unfold eMake aPack aStar at h; rw [e] at h; exact h.elim
    | exc c fs M1 => unfold eMake aPack aStar at h; rw [e] at h; exact h
    | ok d M1 =>
      cases e2 : seqOf M1 d with
      | none =>
        have e3 : aStar sa Γ ρ M = .stuck := by unfold aStar; rw [e]; show R.opt (seqOf M1 d) M1 = _; rw [e2]; rfl
        unfold eMake aPack at h; rw [e3] at h; exact h.elim
      | some ds =>
        have e3 : aStar sa Γ ρ M = .ok ds M1 := by unfold aStar; rw [e]; show R.opt (seqOf M1 d) M1 = _; rw [e2]; rfl
        rw [make_pack e3] at h
        split at h
        · rename_i hz
          intro F1 ι1 H1 v x1 rl1 rv1
          obtain ⟨ad, vs, rfl, hs, hr⟩ := seqOf_at rl1 rv1 e2
          exact ⟨ad, vs, F1, ι1, M1, ds, rfl, hs.symm, rl1, hr, hz, OkG.step x1 h⟩
        · exact h.elim
end
end MP
set_option maxRecDepth 100000
set_option maxHeartbeats 4000000
namespace MP
open PySem L2
/-- C.m, a static method of C's own -/
structure StatM (K : PySem.W.Frag) (C : Addr) (m : Str) (f : Addr) : Prop where
  rd : PySem.W.readsIn K C (.type "type") = true
  ga : PySem.W.specialIn K (.ref C) "__getattribute__" = some (some (.builtin "type.__getattribute__"))
  ex : ∃ p rest, PySem.W.findCls K (.ref C) (.type "type") m = some (.get (.builtin "staticmethod.__get__") (.ref p) .none (.ref C)) ∧ PySem.W.recIn K p "staticmethod" = some (.ref f :: rest)
section
variable {X : Cx} {W : WX} {Γ : Calls} {pos p p1 apos : Pos} {x m : Str} {C f : Addr} {k q : Nat}
theorem se_static0 {pl : Sem Bool} (G : FnX X k f 0 (Γ q)) (hm : X.mg x = some (.ref C)) (S : StatM X.K C m f) (hr : Room k X.A) (tk : Takes X W) (hg : Gl X x := by rfl) (hdb : (x == ("__debug__" : Str)) = false := by decide)
    (ht : eval (.Call (.Attribute (.Name x p1) m apos) [] [] pos) X.env = (do
      let ov ← eval (.Name x p1) X.env
      standAt apos.atName
      let (f, first) ← holding [ov] (getMethod ov m pl)
      callWith pos f first (backTo pos (starEach [] X.env)) (backToKw pos (keywordEach [] X.env))) := by rfl) :
    SE X W Γ (.Call (.Attribute (.Name x p1) m apos) [] [] pos) (eCall q aNil) := by
  obtain ⟨pm, rest, h1, h2⟩ := S.ex
  refine ⟨fun σ H Q => ∃ F ι M, Rel X.K X.mg F ι M H ∧ OkE X.K X.mg F ι H (Γ q [] M) Q (WE W σ), ⟨fun pins s σ H Q I h => ?_⟩, fun ρ M F ι σ H Q rl er h => ⟨F, ι, M, rl, h⟩⟩
  obtain ⟨F, ι, M, rl, ok⟩ := h
  refine PySem.W.methodCall_KW (ld_glob I hg hm ?_ hdb) ht
  refine PySem.W.method_cls I.kIn S.ga ?_
  refine PySem.W.cls_bind I.kIn S.rd h1 ?_
  refine wpAny_call (PySem.W.sm_get (I.tok _).kIn h2 ?_)
  refine PySem.W.handed_on rfl ?_
  exact PySem.W.callWith_K0 I.kIn G.kp (runF (us := []) G hr rfl tk ((I.tok _).tok _) rl .nil rfl .nil ok)
end
end MP
set_option maxRecDepth 100000
set_option maxHeartbeats 4000000
namespace MP
open PySem L2 PySem.W PySem.Calls PyProof.Rows
section
variable {prog : Program} {w : World} {A : Around} {E : Value → Shared → Prop} {s : Shared}
/-- sorted(x), x a list or a tuple of alike data -/
theorem sorted_any {l : Addr} {T : String} {o : Obj} {n : Nat} {vs : List Value} {ds : List PyData} {Q : Value → Shared → Prop} (hT : T = "list" ∨ T = "tuple") (ho : s.heap.get? l = some o) (hc : o.cls = .type T) (hd : o.data = .seq vs.toArray n) (hL : vs.length ≤ sizeLine)
    (e : EachIs (fun v d => ∃ as, Reads s.heap v d as) vs ds) (hal : AllAlike ds) (hk : Sortable ds) (hu : ∀ d, d ∈ ds → A.units + 2 + d.depth < cLine)
    (h : ∀ (h' : Heap) (d : Addr) (out : List Value), KeyedOut false ds vs out → (∀ b o, s.heap.get? b = some o → h'.get? b = some o) → s.heap.get? d = none → (∃ n, h'.get? d = some (seqObj "list" out.toArray n)) → Q (.ref d) { s with heap := h' }) :
    wpAny (model prog w) A (call (.builtin "sorted") [.ref l]) Q E s := by
  refine Calls.call_function_entry kind_sorted plain_sorted entry_sorted (args_sorted1 _) ?_
  unfold Builtin.«sorted»
  refine wpAny_bind (m := checkCount "sorted" 1 1 _) (wpAny_pure ?_)
  refine wpAny_bind (wpAny_collect_seq l hT ho hc hd (fun h1 hk1 => ?_) (by rw [List.size_toArray]; exact hL))
  have ev : vs.toArray.toList = vs := by simp
  rw [ev]
  refine wpAny_bind (wpAny_newList ?_ hL)
  have keep : ∀ b o, s.heap.get? b = some o → b ≠ h1.objs.size ∧ (h1.push (seqObj "list" vs.toArray 0)).get? b = some o := fun b o q => by
    have q1 := hk1 b o q
    exact ⟨Nat.ne_of_lt (Heap.lt_size q1), Heap.get?_push_of_some _ q1⟩
  have hat : (h1.push (seqObj "list" vs.toArray 0)).get? h1.objs.size = some (seqObj "list" vs.toArray 0) := Heap.get?_push_size _ rfl
  have kept : ∀ b o, s.heap.get? b = some o → (sortingHeap (h1.push (seqObj "list" vs.toArray 0)) h1.objs.size vs).get? b = some o := fun b o q => sortingHeap_old (keep b o q).1 (keep b o q).2
  have es : EachIs (fun v d => ∃ as, Reads (sortingHeap (h1.push (seqObj "list" vs.toArray 0)) h1.objs.size vs) v d as) vs ds := e.mono fun _ _ ⟨as, r⟩ => ⟨as, Reads.keeps kept r⟩
  have S : SortsAt prog w A.in1.in1 { s with heap := sortingHeap (h1.push (seqObj "list" vs.toArray 0)) h1.objs.size vs } (dataKind (sortingHeap (h1.push (seqObj "list" vs.toArray 0)) h1.objs.size vs) ds) vs :=
    SortsAt.data (s := { s with heap := sortingHeap (h1.push (seqObj "list" vs.toArray 0)) h1.objs.size vs }) es hal hk (fun d hd => by
      have := hu d hd
      show A.units + 1 + 1 + d.depth < cLine
      omega)
  refine wpAny_bind (wpAny_holding (wpAny_call_entry slot_list_sort ⟨_, hat, rfl⟩ entry_list_sort (list_sort_vals (s := { s with heap := h1.push (seqObj "list" vs.toArray 0) }) hat S hL ⟨_, rfl, ?_⟩) (args_list_sort _)))
  refine wpAny_pure ⟨_, rfl, h _ h1.objs.size _ ⟨_, vs, hal, rfl, es⟩ (fun b o q => ?_) ?_ ?_⟩
  · obtain ⟨k1, k2⟩ := keep b o q
    show (sortedHeap (h1.push (seqObj "list" vs.toArray 0)) h1.objs.size vs _).get? b = some o
    rw [sortedHeap_old k1 (Heap.lt_size k2)]
    exact k2
  · cases q : s.heap.get? h1.objs.size with
    | none => rfl
    | some o2 => exact absurd (Heap.lt_size (hk1 _ _ q)) (Nat.lt_irrefl _)
  · exact sortedHeap_at hat
end
def rSortD (K : PySem.W.Frag) : List V → Hp → VK → Prop := fun vs H Q => ∃ (a : Addr) (bs : List (V × PyData)), vs = [.ref a] ∧ (SqL K H a (bs.map (·.1)) ∨ SqT K H a (bs.map (·.1))) ∧ (∀ b ∈ bs, Dp K H b.1 b.2) ∧ AllAlike (bs.map (·.2)) ∧ Sortable (bs.map (·.2)) ∧
  (∀ b ∈ bs, b.2.depth ≤ 60) ∧ ∀ p, H p = none → Q (.ref p) (upd H p (.lst ((bs.mergeSort (dataLe false Prod.snd)).map (·.1))))
theorem vals_each {bs : List (V × PyData)} : ∀ {us : List Value}, Vals (bs.map (·.1)) us → EachIs (fun u b => RelV b.1 u) us bs := by
  induction bs with
  | nil => intro us r; cases r; exact .nil
  | cons b bs ih =>
    intro us r
    cases r with
    | cons r1 r2 => exact .cons r1 (ih r2)
theorem each_vals {bs : List (V × PyData)} : ∀ {us : List Value}, EachIs (fun u b => RelV b.1 u) us bs → Vals (bs.map (·.1)) us := by
  induction bs with
  | nil => intro us r; cases r; exact .nil
  | cons b bs ih =>
    intro us r
    cases r with
    | cons r1 r2 => exact .cons r1 (ih r2)
theorem each_reads {X : Cx} {pins : List (Addr × Obj)} {σ : L2.St} {H : Hp} {s : Shared} (I : Inv X pins σ H s) : ∀ {bs : List (V × PyData)} {us : List Value}, EachIs (fun u b => RelV b.1 u) us bs → (∀ b ∈ bs, Dp X.K H b.1 b.2) → EachIs (fun v d => ∃ as, Reads s.heap v d as) us (bs.map (·.2))
  | [], _, .nil, _ => .nil
  | b :: bs, _, .cons r t, h => .cons (Dp.reads I b.2 b.1 _ (h b List.mem_cons_self) r) (each_reads I t fun b hb => h b (List.mem_cons_of_mem _ hb))
section
variable {X : Cx}
theorem cr_sortD (hu : X.A.units + 65 < cLine) : CallR X (.builtin "sorted") (rSortD X.K) := by
  intro pins s σ H vs us Q I r h
  obtain ⟨a, bs, rfl, hs, hd, hal, hk, hz, q⟩ := h
  obtain ⟨u, rfl, ru⟩ := vals1 r
  obtain rfl : u = Value.ref a := ru
  have key : ∃ (T : String) (o : Obj) (n : Nat) (its : List Value), (T = "list" ∨ T = "tuple") ∧ s.heap.get? a = some o ∧ o.cls = .type T ∧ o.data = .seq its.toArray n ∧ its.length ≤ sizeLine ∧ Vals (bs.map (·.1)) its := by
    rcases hs with hs | hs
    · obtain ⟨its, rv, pl, hz⟩ := I.list hs
      obtain ⟨o, ho, hc, n, hd⟩ := pl.isList
      exact ⟨"list", o, n, its, .inl rfl, ho, hc, hd, by rw [← rv.length]; exact hz, rv⟩
    · obtain ⟨its, rv, pl, hz⟩ := I.tuple hs
      obtain ⟨o, ho, hc, n, hd⟩ := pl
      exact ⟨"tuple", o, n, its, .inr rfl, ho, hc, hd, by rw [← rv.length]; exact hz, rv⟩
  obtain ⟨T, o, n, its, hT, ho, hc, hdt, hl, rv⟩ := key
  have ev := vals_each rv
  refine sorted_any hT ho hc hdt hl (each_reads I ev hd) hal hk (fun d hd => ?_) fun h' p out ko kp hp hn => ?_
  · obtain ⟨b, hb, rfl⟩ := List.mem_map.mp hd
    have := hz b hb
    omega
  · have eo := keyedOut_each (R := fun u b => RelV b.1 u) (fun b : V × PyData => b.2) ko ev
    have hn0 : H p = none := I.hok.gone hp
    obtain ⟨m, hm⟩ := hn
    refine ⟨.ref p, upd H p (.lst ((bs.mergeSort (dataLe false Prod.snd)).map (·.1))), I.laidN (t' := s.toks) kp hp hn0 ⟨?_, out, m, each_vals eo, hm⟩, rfl, q p hn0⟩
    rw [List.length_map, List.length_mergeSort, ← List.length_map (f := fun b : V × PyData => b.1), rv.length]
    exact hl
end
/-! the same over data -/
def alikeB (ps : List PyData) : Bool := ps.all fun d => ps.all fun e => alike d e
def tupB : PyData → Bool
  | .tuple (_ :: _) => true
  | _ => false
def plnB : PyData → Bool
  | .none => false
  | .tuple _ => false
  | _ => true
def sortB (ps : List PyData) : Bool := alikeB ps && ((ps.all tupB || ps.all plnB) && ps.all fun p => decide (p.depth ≤ 60))
theorem sortB_ok {ps : List PyData} (h : sortB ps = true) : AllAlike ps ∧ Sortable ps ∧ ∀ p ∈ ps, p.depth ≤ 60 := by
  unfold sortB at h
  simp only [Bool.and_eq_true, Bool.or_eq_true, List.all_eq_true, alikeB, decide_eq_true_eq] at h
  refine ⟨fun d hd e he => h.1 d hd e he, ?_, h.2.2⟩
  rcases h.2.1 with q | q
  · refine .inl fun d hd => ?_
    have := q d hd
    unfold tupB at this
    split at this
    · exact ⟨_, _, rfl⟩
    · cases this
  · refine .inr fun d hd => ?_
    have := q d hd
    unfold plnB at this
    split at this
    · cases this
    · cases this
    · rename_i h1 h2
      exact ⟨fun e => h1 e, fun xs e => h2 xs e⟩
def dSorted := f1 fun M x => (seqOf M x).bind fun xs => (toPys M xs).bind fun ps => if sortB ps = true then some (.lst (((xs.zip ps).mergeSort (dataLe false Prod.snd)).map Prod.fst)) else none
theorem toPys_len (M : Mem) : ∀ {xs : List D} {ps : List PyData}, toPys M xs = some ps → xs.length = ps.length
  | [], _, h => by simp only [toPys] at h; cases h; rfl
  | x :: xs, _, h => by
    simp only [toPys] at h
    cases e1 : toPy M x with
    | none => rw [e1] at h; cases h
    | some p =>
      cases e2 : toPys M xs with
      | none => rw [e1, e2] at h; cases h
      | some ps => rw [e1, e2] at h; cases h; simp [toPys_len M e2]
section
variable {K : PySem.W.Frag} {mg : Str → Option Value}
theorem dps_all {H : Hp} : ∀ {vs : List V} {ps : List PyData}, DpAll K H vs ps → ∀ b ∈ vs.zip ps, Dp K H b.1 b.2
  | _, _, .nil, b, h => by simp at h
  | _, _, .cons r t, b, h => by
    rw [List.zip_cons_cons] at h
    rcases List.mem_cons.mp h with rfl | h
    · exact r
    · exact dps_all t b h
theorem RVs.zip3 {F : Hp} {ι : List Addr} : ∀ {xs : List D} {vs : List V} {ps : List PyData}, RVs K mg F ι xs vs → xs.length = ps.length → ∃ ts : List (D × V × PyData), ts.map (fun t => (t.1, t.2.2)) = xs.zip ps ∧ ts.map (fun t => (t.2.1, t.2.2)) = vs.zip ps ∧ ∀ t ∈ ts, RV K mg F ι t.1 t.2.1
  | _, _, ps, .nil, _ => ⟨[], rfl, rfl, fun _ h => by simp at h⟩
  | _, _, [], .cons _ _, h => by simp at h
  | _, _, p :: ps, .cons (d := d) (v := v) r t, h => by
    obtain ⟨ts, h1, h2, h3⟩ := RVs.zip3 t (by simpa using h)
    refine ⟨(d, v, p) :: ts, by simp [h1], by simp [h2], fun t ht => ?_⟩
    rcases List.mem_cons.mp ht with rfl | ht
    · exact r
    · exact h3 t ht
theorem RVs.of_all {F : Hp} {ι : List Addr} : ∀ {ts : List (D × V × PyData)}, (∀ t ∈ ts, RV K mg F ι t.1 t.2.1) → RVs K mg F ι (ts.map fun t => t.1) (ts.map fun t => t.2.1)
  | [], _ => .nil
  | t :: ts, h => .cons (h t List.mem_cons_self) (RVs.of_all fun t ht => h t (List.mem_cons_of_mem _ ht))
theorem o1_sorted : O1 K mg (rSortD K) dSorted := by
  intro F ι M H Q x z u rl rx e k
  replace e := f1_some e
  obtain ⟨d, rfl, e⟩ := e
  obtain ⟨v, rfl, rv⟩ := rx.one
  rw [Option.bind_eq_some_iff] at e
  obtain ⟨xs, h1, e⟩ := e
  rw [Option.bind_eq_some_iff] at e
  obtain ⟨ps, h2, e⟩ := e
  split at e
  · rename_i hc
    replace hc := sortB_ok hc
    cases e
    obtain ⟨p, vs, rfl, hp, hs⟩ := seqOf_at rl rv h1
    have hl := toPys_len M h2
    obtain ⟨ts, t1, t2, t3⟩ := hs.zip3 hl
    have hl2 : vs.length = ps.length := by rw [← hs.len]; exact hl
    have m1 : (vs.zip ps).map (·.1) = vs := List.map_fst_zip (Nat.le_of_eq hl2)
    have m2 : (vs.zip ps).map (·.2) = ps := List.map_snd_zip (Nat.le_of_eq hl2.symm)
    have e1 : (ts.mergeSort (dataLe false fun t => t.2.2)).map (fun t => (t.1, t.2.2)) = (xs.zip ps).mergeSort (dataLe false Prod.snd) := by
      rw [← t1]
      exact List.map_mergeSort fun a _ b _ => rfl
    have e2 : (ts.mergeSort (dataLe false fun t => t.2.2)).map (fun t => (t.2.1, t.2.2)) = (vs.zip ps).mergeSort (dataLe false Prod.snd) := by
      rw [← t2]
      exact List.map_mergeSort fun a _ b _ => rfl
    refine ⟨p, vs.zip ps, rfl, by rw [m1]; exact hp, dps_all (toPys_dp rl hs h2), by rw [m2]; exact hc.1, by rw [m2]; exact hc.2.1, fun b hb => hc.2.2 _ (by rw [← m2]; exact List.mem_map_of_mem hb), fun q hq => ?_⟩
    refine q_newL k rl ?_ hq
    rw [← e1, ← e2, List.map_map, List.map_map]
    exact RVs.of_all fun t ht => t3 t (List.mem_mergeSort.mp ht)
  · cases e
end
theorem boot_sorted' : bootBuiltins "sorted" = some (.builtin "sorted") := by decide +kernel
theorem se_sorted {X : Cx} {W : WX} {Γ : Calls} {a : Expr} {sr : AS} {p pos : Pos} (hu : X.A.units + 65 < cLine) (hm : X.mg "sorted" = none) (ha : SA X W Γ [a] sr) (hg : Gl X "sorted" := by rfl) (he : starEach [a] X.env = (false, eval a X.env) :: starEach [] X.env := by rfl) (hpl : (backTo pos (starEach [] X.env)).any (·.1) = false := by rfl) : SE X W Γ (.Call (.Name "sorted" p) [a] [] pos) (eB dSorted sr) :=
  se_callB (cr_sortD hu) o1_sorted hm boot_sorted' ha hg (by decide) (by decide) he hpl
end MP
set_option maxRecDepth 100000
set_option maxHeartbeats 4000000
namespace MP
open PySem L2
section
variable {prog : Program} {w : World} {A : Around} {E : Value → Shared → Prop} {s : Shared}
theorem meets_bool_own (v : Value) : MeetsIn prog w (Builtin.«bool.__new__» ⟨[.type "bool", v], []⟩) (fun A R s => wpAny (model prog w) A.in1 (truthy v) (fun b s' => R (.ok (.ret (.bool b))) s') (fun e s' => R (.error e) s') s) :=
  .of_wp fun A R s hs => by
    obtain ⟨hp, g, d, tk, os⟩ := s
    have f1 := F.conv_sub_bool
    repeat (any_goals (first | assumption | wp_step))
    show wpAny (model prog w) A.in1 (truthy v) _ _ _
    exact wpAny_mono hs (fun b s' hb => wpAny_pure ⟨_, rfl, hb⟩) (fun _ _ z => z)
end
def isBlD : D → Bool
  | .bl _ => true
  | _ => false
section
variable {X : Cx} {W : WX} {Γ : Calls} {o : Expr} {so : ES} {pos p : Pos}
theorem call_boolO {k : Nat} {C f : Addr} {q : Nat} (G : FnX X k f 1 (Γ q)) (hs : PySem.W.findIn X.K (.ref C) "__bool__" = some (some (.ref f))) (hr : Room (k + 2) X.A) : CallR X (.type "bool") (rDun1 X Γ C q isBlD) := by
  intro pins s σ H vs us Q I r h
  obtain ⟨p, dx, gs, F, ι, M, d, rfl, hp, rl, rd, ok⟩ := h
  obtain ⟨u, rfl, ru⟩ := vals1 r
  cases (show u = Value.ref p from ru)
  obtain ⟨od, J⟩ := inst_of I hp
  obtain ⟨m, hF⟩ := I.fr
  refine PySem.callType_newIn PySem.F.called_bool PySem.F.newNe_bool (PySem.F.typeCall_bool_1 _) (PySem.F.newCall_bool_1 _) (fun obj => PySem.F.args_object_init_2 obj _) PySem.F.entry_bool_new (meets_bool_own _) ?_
  refine PySem.W.truthy_K hF I.ok.mod.kin J hs G.fn (wpAny_mono (runN G hr.in1.in1 rfl I rl (.cons rd .nil) rfl (.cons rfl .nil) ok) (fun v s1 hv => ?_) (fun e s1 he => ?_))
  · obtain ⟨w, H1, I1, rw', d2, M1, F1, ι1, x1, rl1, rv1, hk, hq⟩ := hv
    cases rv1 <;> first | (cases hk; done) | skip
    rename_i b
    cases (show v = Value.bool b from rw')
    exact ⟨rfl, ⟨.bl b, H1, I1, rfl, hq⟩⟩
  · exact he
end
end MP
set_option maxRecDepth 100000
set_option maxHeartbeats 4000000
namespace MP
open PySem L2
section
variable {X : Cx} {W : WX} {Γ : Calls} {e a b o : Expr} {se sa sb so : ES} {sr : AS} {pos p : Pos}
/-! ### xs += ys, both lists that change -/
def extM (k b : Nat) (M : Mem) : Option Mem := match M[k]?, M[b]? with
  | some (.lst xs), some (.lst ys) => if xs.length + ys.length ≤ sizeLine then some (M.set k (.lst (xs ++ ys))) else none
  | _, _ => none
def kExt (i k : Nat) (ρ : MP.Env) (y : D) (M1 : Mem) : SR := match y with
  | .ref b => match extM k b M1 with
    | some M2 => .next (ρ.set i (some (.ref k))) M2
    | none => .stuck
  | _ => .stuck
def sExt (i : Nat) (a : ES) : SS := fun Γ ρ M => match ρ[i]? with
  | some (some (.ref k)) => (a Γ ρ M).toS ρ (kExt i k ρ)
  | _ => .stuck
theorem ip_ext : PIp X .Add rExt2 := iop_ext
theorem ss_ext {i : Nat} {x : Str} {pos' : Pos} (hN : X.N.Nodup) (h : SE X W Γ e se) (hi : X.N[i]? = some x := by rfl) (hx : Loc X.env.scope x := by first | exact Or.inl rfl | exact Or.inr rfl)
    (hff : X.fn x = true ∨ X.env.scope.names.lookup x = some .local := by first | exact .inl rfl | exact .inr rfl | assumption) : SSt X W Γ (.AugAssign (.Name x pos') .Add e pos) (sExt i se) := by
  obtain ⟨t, p, k⟩ := h
  refine ⟨_, ps_aug hN hi hx p ip_ext hff, fun ρ M F ι σ H D rl er h => ?_⟩
  unfold sExt at h
  split at h
  · rename_i kk e1
    obtain ⟨v, ev, rv⟩ := er.2 i _ e1
    refine ⟨v, ev, k ρ M F ι σ H _ rl er ((OkS.bind er h).imp fun u H1 hu => ?_)⟩
    obtain ⟨y, M1, F1, ι1, x1, rl1, rv1, h1⟩ := hu
    unfold kExt at h1
    split at h1
    · rename_i bb
      split at h1
      · rename_i M2 e2
        unfold extM at e2
        split at e2
        · rename_i xs ys ex ey
          split at e2
          · rename_i hz
            cases e2
            obtain ⟨p1, vs1, rfl, hk1, hp1, hs1⟩ := ref_lst rl1 (rv.mono x1) ex
            obtain ⟨p2, vs2, rfl, hk2, hp2, hs2⟩ := ref_lst rl1 rv1 ey
            refine ⟨p1, p2, vs1, vs2, rfl, rfl, hp1, hp2, by rw [← hs1.len, ← hs2.len]; exact hz, ?_⟩
            have x2 := Ext.set (F := F1) (H := H1) (o := .lst (vs1 ++ vs2)) hk1
            exact h1 F1 ι1 _ _ x2 (rl1.set ex (by intro z; cases z) hk1 (hs1.append hs2)) (((er.mono x1).mono x2).set i (.ref hk1))
          · cases e2
        · cases e2
      · exact h1.elim
    · exact h1.elim
  · exact h.elim
/-! ### str of a number -/
def dStrI := f1 fun _ x => match x with
  | .int i => if i.natAbs.log2 < 1920 then some (.str (toString i)) else none
  | _ => none
theorem o1_strI {K : PySem.W.Frag} {mg : Str → Option Value} : O1 K mg (fun xs H Q => ∃ i, xs = [.int i] ∧ i.natAbs.log2 < 1920 ∧ Q (.str (toString i)) H) dStrI := by
  intro F ι M H Q x z u rl rx e k
  replace e := f1_some e
  obtain ⟨d, rfl, e⟩ := e
  obtain ⟨v, rfl, rv⟩ := rx.one
  cases rv <;> simp only [reduceCtorEq] at e
  split at e
  · rename_i hz
    cases e
    exact ⟨_, rfl, hz, q_fin k rl (.str _)⟩
  · cases e
theorem se_strI (hm : X.mg "str" = none) (ha : SA X W Γ [a] sr) (hg : Gl X "str" := by rfl) (he : starEach [a] X.env = (false, eval a X.env) :: starEach [] X.env := by rfl) (hpl : (backTo pos (starEach [] X.env)).any (·.1) = false := by rfl) : SE X W Γ (.Call (.Name "str" p) [a] [] pos) (eB dStrI sr) := se_callTy call_str_int o1_strI hm boot_str' ha hg (by decide) (by decide) he hpl
end
section
variable (Γ : Calls) (ρ : MP.Env) (M : Mem)
@[simp] theorem strI_int (i : Int) : dStrI M [.int i] = if i.natAbs.log2 < 1920 then some (.str (toString i)) else none := rfl
end
end MP
set_option maxRecDepth 100000
set_option maxHeartbeats 4000000
namespace MP
open PySem L2
/-! ### comprehensions over lists that change elsewhere: the element leaves the memory as it is -/
def Pu (Γ : Calls) (el : ES) : Prop := ∀ ρ M d M', el Γ ρ M = .ok d M' → M' = M
section
variable {Γ : Calls}
theorem pu_var (i : Nat) : Pu Γ (eVar i) := by
  intro ρ M d M' h
  have h' : ofo ρ[i]? M = .ok d M' := h
  rcases ho : ρ[i]? with _ | (_ | x)
  · rw [ho] at h'; cases h'
  · rw [ho] at h'; cases h'
  · rw [ho] at h'; cases h'; rfl
theorem pu_c (x : D) : Pu Γ (eC x) := by
  intro ρ M d M' h
  cases h
  rfl
theorem pu_e2 {f : Mem → D → D → Option D} {a b : ES} (ha : Pu Γ a) (hb : Pu Γ b) : Pu Γ (e2 f a b) := by
  intro ρ M d M' h
  rw [x_e2] at h
  cases e1 : a Γ ρ M with
  | ok x M1 =>
    rw [e1, bind_ok, kOp_eq] at h
    cases e2 : b Γ ρ M1 with
    | ok y M2 =>
      rw [e2, bind_ok, kOp1_eq] at h
      cases e3 : f M2 x y with
      | some z =>
        rw [e3] at h
        cases h
        rw [hb _ _ _ _ e2, ha _ _ _ _ e1]
      | none => rw [e3] at h; cases h
    | exc c fs M2 => rw [e2] at h; cases h
    | stuck => rw [e2] at h; cases h
  | exc c fs M2 => rw [e1] at h; cases h
  | stuck => rw [e1] at h; cases h
end
structure ItAt (K : PySem.W.Frag) (mg : Str → Option Value) (F : Hp) (ι : List Addr) (M : Mem) (ds : List D) (J : It) : Prop where
  go : ∀ i F' ι' H, (∀ a o, F a = some o → F' a = some o) → (∃ t, ι' = ι ++ t) → Rel K mg F' ι' M H → i < ds.length → J.go i H
  yld : ∀ i F' ι' H x H', (∀ a o, F a = some o → F' a = some o) → (∃ t, ι' = ι ++ t) → Rel K mg F' ι' M H → i < ds.length → J.yld i H x H' → ∃ F2, Ext F' ι' H F2 ι' H' ∧ Rel K mg F2 ι' M H' ∧ ∃ d, ds[i]? = some d ∧ RV K mg F2 ι' d x
  stop : ∀ i F' ι' H, (∀ a o, F a = some o → F' a = some o) → (∃ t, ι' = ι ++ t) → Rel K mg F' ι' M H → ds.length ≤ i → J.stop i H
theorem ItAt.ref {K : PySem.W.Frag} {mg : Str → Option Value} {F : Hp} {ι : List Addr} {M : Mem} {k : Nat} {a : Addr} {ds : List D} (hk : ι[k]? = some a) (hM : M[k]? = some (.lst ds)) : ItAt K mg F ι M ds (Itl K a) := by
  have hx : ∀ F' ι' H, (∃ t, ι' = ι ++ t) → Rel K mg F' ι' M H → ∃ vs, H a = some (.lst vs) ∧ RVs K mg F' ι' ds vs := fun F' ι' H hι rl => by
    obtain ⟨t, rfl⟩ := hι
    have hk' : (ι ++ t)[k]? = some a := by
      rw [List.getElem?_append_left (List.getElem?_eq_some_iff.mp hk).1]; exact hk
    obtain ⟨p, vs, ep, hp, hH, hs⟩ := ref_lst rl (.ref hk') hM
    cases ep
    exact ⟨vs, hH, hs⟩
  refine ⟨fun i F' ι' H hF hι rl hi => ?_, fun i F' ι' H x H' hF hι rl hi hy => ?_, fun i F' ι' H hF hι rl hi => ?_⟩
  · obtain ⟨vs, hH, r⟩ := hx F' ι' H hι rl
    exact ⟨vs, vs[i]'(by rw [← r.len]; exact hi), SqL.of hH, by simp⟩
  · obtain ⟨vs, hH, r⟩ := hx F' ι' H hι rl
    obtain ⟨rfl, hx⟩ := hy
    have hx := hx vs (SqL.of hH)
    refine ⟨F', Ext.refl, rl, ds[i], by simp [hi], ?_⟩
    obtain ⟨v, hv, rv⟩ := r.get (i := i) (d := ds[i]) (by simp [hi])
    rw [hx] at hv; cases hv
    exact rv
  · obtain ⟨vs, hH, r⟩ := hx F' ι' H hι rl
    exact ⟨vs, SqL.of hH, by rw [← r.len]; exact hi⟩
section
variable {X : Cx} {W : WX} {Γ : Calls} {e a b o : Expr} {se sa sb so : ES} {pos p : Pos}
/-- what a name that holds a changing list walks -/
def aRef (a : ES) : AS := fun Γ ρ M => (a Γ ρ M).bind fun x M1 => match x with
  | .ref k => match M1[k]? with
    | some (.lst xs) => .ok xs M1
    | _ => .stuck
  | _ => .stuck
theorem runLcR {te0 : TE} {s : ES} {g : GS} {el : ES} {gt : TG} {tt : TT} {te : TE} {vs : List Nat}
    (k0 : ∀ ρ M F ι σ H Q, Rel X.K X.mg F ι M H → ER X.K X.mg F ι ρ σ → OkE X.K X.mg F ι H (s Γ ρ M) Q (WE W σ) → te0 σ H Q)
    (kg : ∀ d v ρ ρ' M F ι σ H Q, Rel X.K X.mg F ι M H → ER X.K X.mg F ι ρ σ → RV X.K X.mg F ι d v → g M d ρ = some ρ' → (∀ σ', ER X.K X.mg F ι ρ' σ' → wipe σ' vs = wipe σ vs → Q σ' H) → gt v σ H Q)
    (kt : ∀ ρ M F ι σ H Q, Rel X.K X.mg F ι M H → ER X.K X.mg F ι ρ σ → OkT X.K X.mg F ι H (tYes' Γ ρ M) Q (fun _ _ _ => False) → tt σ H Q)
    (ke : ∀ ρ M F ι σ H Q, Rel X.K X.mg F ι M H → ER X.K X.mg F ι ρ σ → OkE X.K X.mg F ι H (el Γ ρ M) Q (fun _ _ _ => False) → te σ H Q) (hw : ∀ σ : St, wipe (wipe σ vs) vs = wipe σ vs) (hpu : Pu Γ el) :
    ∀ ρ M F ι σ H Q, Rel X.K X.mg F ι M H → ER X.K X.mg F ι ρ σ → OkE X.K X.mg F ι H (eLc (aRef s) g tYes' el vs Γ ρ M) Q (WE W σ) → tLc (iList X.K te0) gt tt te vs σ H Q := by
  intro ρ M F ι σ H Q rl er h
  have h' : OkE X.K X.mg F ι H ((s Γ ρ M).bind fun x M1 => (match x with
    | .ref k => match M1[k]? with
      | some (.lst xs) => (.ok xs M1 : R (List D))
      | _ => .stuck
    | _ => .stuck).bind fun ds M1 => if ds.length ≤ sizeLine then (match lcL g tYes' el Γ (wipeD ρ vs) ds M1 with
      | .ok ys M2 => .ok (.lst ys) M2
      | _ => .stuck) else .stuck) Q (WE W σ) := by
    have e : eLc (aRef s) g tYes' el vs Γ ρ M = _ := rfl
    cases es : s Γ ρ M with
    | ok x M1 =>
      have : eLc (aRef s) g tYes' el vs Γ ρ M = ((match x with
        | .ref k => match M1[k]? with
          | some (.lst xs) => (.ok xs M1 : R (List D))
          | _ => .stuck
        | _ => .stuck).bind fun ds M1 => if ds.length ≤ sizeLine then (match lcL g tYes' el Γ (wipeD ρ vs) ds M1 with
          | .ok ys M2 => .ok (.lst ys) M2
          | _ => .stuck) else .stuck) := by
        show (aRef s Γ ρ M).bind _ = _
        unfold aRef
        rw [es]
        rfl
      rw [this] at h
      exact h
    | exc c fs M1 =>
      have : eLc (aRef s) g tYes' el vs Γ ρ M = .exc c fs M1 := by
        show (aRef s Γ ρ M).bind _ = _
        unfold aRef
        rw [es]
        rfl
      rw [this] at h
      exact h
    | stuck =>
      have : eLc (aRef s) g tYes' el vs Γ ρ M = .stuck := by
        show (aRef s Γ ρ M).bind _ = _
        unfold aRef
        rw [es]
        rfl
      rw [this] at h
      exact h
  refine k0 ρ M F ι σ H _ rl er (OkG.bind h' |>.imp fun v H1 hv => ?_)
  obtain ⟨d0, M1, F1, ι1, x1, rl1, rv0, h1⟩ := hv
  split at h1
  rotate_left
  · exact h1.elim
  rename_i k
  split at h1
  rotate_left
  · exact h1.elim
  rename_i ds hM1
  obtain ⟨a, ws, rfl, hk, hH, hs⟩ := ref_lst rl1 rv0 hM1
  refine ⟨a, rfl, ⟨_, SqL.of hH⟩, ?_⟩
  have it : ItAt X.K X.mg F1 ι1 M1 ds (Itl X.K a) := ItAt.ref hk hM1
  rw [bind_ok] at h1
  intro D hD
  split at h1
  case isFalse => exact h1.elim
  rename_i hz
  have f1 : F1 D = none := rl1.fnone hD
  have er1 := er.mono x1
  cases e0 : lcL g tYes' el Γ (wipeD ρ vs) ds M1 with
  | stuck => rw [e0] at h1; exact h1.elim
  | exc c fs M2 => rw [e0] at h1; exact h1.elim
  | ok ys0 Mz =>
  rw [e0] at h1
  dsimp only at h1
  have nD : D ∉ ι1 := fun z => by
    obtain ⟨o, q⟩ := rl1.hs D z
    rw [hD] at q; cases q
  refine ⟨fun i m H => m = ds.length - i ∧ i ≤ ds.length ∧ ∃ F ι acc accv ys, Ext F1 ι1 H1 F ι H ∧ Rel X.K X.mg F ι M1 H ∧ H D = some (.lst accv) ∧ F D = none ∧ D ∉ ι ∧ RVs X.K X.mg F ι acc accv ∧ acc.length ≤ i ∧ lcL g tYes' el Γ (wipeD ρ vs) (ds.drop i) M1 = .ok ys Mz ∧ acc ++ ys = ys0,
    ⟨ds.length, rfl, Nat.zero_le _, F1, ι1, [], [], ys0, Ext.refl.poke hD, rl1.junk hD, upd_same, f1, nD, .nil, Nat.le_refl _, by simpa using e0, rfl⟩, ?_⟩
  rintro i m H ⟨rfl, hi, F, ι, acc, accv, ys, x, rl, hacc, hF, hι, ra, hl, el0, hys⟩
  have up : (∀ a o, F1 a = some o → F a = some o) ∧ ∃ t, ι = ι1 ++ t := ⟨x.f, let ⟨t, q, _⟩ := x.i; ⟨t, q⟩⟩
  by_cases hlt : i < ds.length
  · refine .inr ⟨it.go i F ι H up.1 up.2 rl hlt, fun H => ∃ F ι acc accv ys, Ext F1 ι1 H1 F ι H ∧ Rel X.K X.mg F ι M1 H ∧ H D = some (.lst accv) ∧ F D = none ∧ D ∉ ι ∧ RVs X.K X.mg F ι acc accv ∧ acc.length ≤ i + 1 ∧ lcL g tYes' el Γ (wipeD ρ vs) (ds.drop (i + 1)) M1 = .ok ys Mz ∧ acc ++ ys = ys0,
      fun H' q => ⟨ds.length - (i + 1), by omega, rfl, hlt, q⟩, fun xv H' hy => ?_⟩
    obtain ⟨F2, x2, rl2, d, hd, rv⟩ := it.yld i F ι H xv H' up.1 up.2 rl hlt hy
    have e : ds.drop i = d :: ds.drop (i + 1) := by
      rw [List.drop_eq_getElem_cons hlt]
      rw [List.getElem?_eq_getElem hlt] at hd
      cases hd
      rfl
    rw [e] at el0
    unfold lcL at el0
    have h2D : H' D = some (.lst accv) := x2.k D _ hacc hι
    have F2D : F2 D = none := x2.n D _ hacc hF hι
    have erw : ER X.K X.mg F2 ι (wipeD ρ vs) (wipe σ vs) := ((er1.mono x).mono x2).wipes vs
    cases eg : g M1 d (wipeD ρ vs) with
    | none => rw [eg] at el0; cases el0
    | some ρ1 =>
      rw [eg] at el0
      simp only [x_tYes] at el0
      refine kg d xv (wipeD ρ vs) ρ1 M1 F2 ι (wipe σ vs) H' _ rl2 erw rv eg fun σ' er' hw' => ⟨hw'.trans (hw σ), ?_⟩
      refine kt ρ1 M1 F2 ι σ' H' _ rl2 er' ?_
      intro F3 ι3 H3 v x3 rl3 ev
      subst ev
      have h3D : H3 D = some (.lst accv) := x3.k D _ h2D hι
      have F3D : F3 D = none := x3.n D _ h2D F2D hι
      have n3 : D ∉ ι3 := x3.notin h2D hι
      rw [if_pos rfl]
      refine ke ρ1 M1 F3 ι3 σ' H3 _ rl3 (er'.mono x3) ?_
      cases ee : el Γ ρ1 M1 with
      | stuck => rw [ee] at el0; cases el0
      | exc c fs M3 => rw [ee] at el0; cases el0
      | ok y M3 =>
        have em : M3 = M1 := hpu _ _ _ _ ee
        subst em
        rw [ee] at el0
        dsimp only at el0
        intro F4 ι4 H4 w x4 rl4 rw4
        have h4D : H4 D = some (.lst accv) := x4.k D _ h3D n3
        have F4D : F4 D = none := x4.n D _ h3D F3D n3
        have n4 : D ∉ ι4 := x4.notin h3D n3
        cases er : lcL g tYes' el Γ (wipeD ρ vs) (ds.drop (i + 1)) M3 with
        | stuck => rw [er] at el0; cases el0
        | exc c fs M4 => rw [er] at el0; cases el0
        | ok zs M4 =>
          rw [er] at el0
          cases el0
          refine ⟨accv, h4D, ?_, F4, ι4, acc ++ [y], accv ++ [w], zs, (((x.trans x2).trans x3).trans x4).poke hD, rl4.poke F4D n4, upd_same, F4D, n4, (((ra.mono x2).mono x3).mono x4).append (.cons rw4 .nil), ?_, rfl, ?_⟩
          · rw [← ra.len]
            exact Nat.lt_of_lt_of_le (Nat.lt_of_le_of_lt hl hlt) hz
          · rw [List.length_append, List.length_singleton]; omega
          · rw [List.append_assoc]; exact hys
  · have e : ds.drop i = [] := List.drop_eq_nil_iff.mpr (by omega)
    rw [e] at el0
    have st := it.stop i F ι H up.1 up.2 rl (by omega)
    cases el0
    rw [List.append_nil] at hys
    subst hys
    refine .inl ⟨st, ?_⟩
    exact fin_frz hD f1 x rl hacc hF hι ra h1
theorem se_lcR {elt tg iter : Expr} {scope : Scope} {own : List (Str × Nat)} {s : ES} {g : GS} {el : ES} (hc : X.calm = true) (hN : X.N.Nodup) (hi : SE X W Γ iter s) (hpu : Pu Γ el) (ok : BlkOk X.N X.env.scope scope own)
    (hb : Blk X Γ scope tg elt [] g tYes' el (own.map (·.2))) (hs : ∀ x, foldedSetIterable iter X.env x = pure x := by intro _; rfl) : SE X W Γ (.ListComp elt [⟨tg, iter, [], 0⟩] scope pos) (eLc (aRef s) g tYes' el (own.map (·.2))) := by
  obtain ⟨wi, pi, ki⟩ := hi
  obtain ⟨gt, tt, te, p1, p2, p3, k1, k2, k3⟩ := hb.parts
  exact ⟨_, pe_lc hc hN (pi_list pi) ok p1 p2 p3 hs, runLcR ki k1 k2 k3 (fun σ => wipe_wipe σ _) hpu⟩
end
section
variable (Γ : Calls) (ρ : MP.Env) (M : Mem)
def kRef (x : D) (M1 : Mem) : R (List D) := match x with
  | .ref k => match M1[k]? with
    | some (.lst xs) => .ok xs M1
    | _ => .stuck
  | _ => .stuck
theorem x_aRef (a : ES) : aRef a Γ ρ M = (a Γ ρ M).bind kRef := by
  unfold aRef kRef
  rfl
theorem kRef_ok {k : Nat} {xs : List D} (h : M[k]? = some (.lst xs)) : kRef (.ref k) M = .ok xs M := by
  unfold kRef
  simp only [h]
end
end MP
set_option maxRecDepth 100000
set_option maxHeartbeats 4000000
namespace MP
open PySem L2
/-! ### errors as values -/
def eErr (c : Str) (fs : List Str) (a : AS) : ES := fun Γ ρ M => (a Γ ρ M).bind fun ds M1 => if ds.length = fs.length then .ok (.err c (fs.zip ds).reverse) M1 else .stuck
theorem err_heap {H : Hp} {a d : Addr} {o1 o2 o3 : HO} : upd (upd (upd H a o1) d o2) a o3 = upd (upd H d o2) a o3 := by
  funext b
  by_cases hb : b = a
  · rw [hb, upd_same, upd_same]
  · rw [upd_ne hb, upd_ne hb]
    by_cases hd : b = d
    · rw [hd, upd_same, upd_same]
    · rw [upd_ne hd, upd_ne hd, upd_ne hb]
/-- what __init__ of an error does to a new one of the class at C -/
def spE (C : Addr) (fs : List Str) : Sp := fun vs H Q _ => vs.length = fs.length + 1 ∧ ∃ (a : Addr) (ys : List V), vs = .ref a :: ys ∧ H a = some (exo a C none) ∧
  ∀ dx, H dx = none → dx ≠ a → Q .non (upd (upd H dx (exd dx (fs.zip ys).reverse)) a (exo a C (some dx)))
/-- an error class whose __init__ does so -/
structure XErr (P : Program) (w : World) (K : PySem.W.Frag) (mg : Str → Option Value) (base : Heap) (k : Nat) (c : Str) (fs : List Str) : Prop where
  ex : ∃ (C fI : Addr) (fd : FuncData) (ps : List Str) (B newId initId : String) (bmB bm : List Value), mg c = some (.ref C) ∧ ExcBaseFacts B newId initId bmB ∧ (∀ Y : String, bm.contains (.type Y) = bmB.contains (.type Y)) ∧
    (∃ nm q N bs sn sub ab col dd k0 k1 k2 k3 k5, K.lookup C = some (excClassObj nm q C N bs bm true sn sub ab col dd k0 k1 k2 k3 k5 newId)) ∧ PySem.W.keepIn K (.ref C) = true ∧
    PySem.W.findIn K (.ref C) "__init__" = some (some (.ref fI)) ∧ PySem.W.typeIn K (.ref fI) = some (.type "function") ∧ FnOk P w K mg base (L2.CX P w) k fI fd ps (spE C fs) ∧ Binds K fd ps []
theorem XMk.err {P : Program} {w : World} {K : PySem.W.Frag} {mg : Str → Option Value} {base : Heap} {k : Nat} {c : Str} {fs : List Str} (T : XMk P w K mg base k c fs) : XErr P w K mg base k c fs := by
  obtain ⟨C, fI, fd, ps, hC, ox, fr, hi, ht, Fn, hb⟩ := T.ex
  obtain ⟨nm, q, N, bs, bm, sn, sub, ab, col, dd, k0, k1, k2, k3, k5, hCo, hbm⟩ := ox.cls
  refine ⟨C, fI, fd, ps, _, _, _, _, bm, hC, F.excBase_ValueError, fun Y => PySem.HandSPX.refsVE_contains Y bm hbm, ⟨nm, q, N, bs, sn, sub, ab, col, dd, k0, k1, k2, k3, k5, hCo⟩, ox.kC, hi, ht, Fn.imp fun vs H Q E h => ?_, hb⟩
  obtain ⟨h1, a, ys, rfl, h2, h3⟩ := h
  exact ⟨h1, a, C, ys, rfl, ox, fr, h2, h3⟩
section
variable {X : Cx} {W : WX} {Γ : Calls} {a e : Expr} {es : List Expr} {sr : AS} {se : ES} {pos p : Pos}
theorem err_made {F : Hp} {ι : List Addr} {M : Mem} {H : Hp} {c : Str} {C b dx : Addr} {fs : List Str} {ds : List D} {vs : List V} (rl : Rel X.K X.mg F ι M H) (rv : RVs X.K X.mg F ι ds vs) (hC : X.mg c = some (.ref C)) (n : H b = none) (nd : H dx = none) (ne : dx ≠ b) :
    ∃ F', Ext F ι H F' ι (upd (upd H dx (exd dx (fs.zip vs).reverse)) b (exo b C (some dx))) ∧ Rel X.K X.mg F' ι M (upd (upd H dx (exd dx (fs.zip vs).reverse)) b (exo b C (some dx))) ∧ RV X.K X.mg F' ι (.err c (fs.zip ds).reverse) (.ref b) := by
  have x1 := Ext.new (o := exd dx (fs.zip vs).reverse) rl nd
  have r1 := rl.new (o := exd dx (fs.zip vs).reverse) nd
  have n1 : upd H dx (exd dx (fs.zip vs).reverse) b = none := by rw [upd_ne (Ne.symm ne)]; exact n
  have x2 := Ext.new (o := exo b C (some dx)) r1 n1
  have x12 := x1.trans x2
  exact ⟨_, x12, r1.new n1, .err upd_same (by rw [upd_ne ne]; exact upd_same) hC (((RVf.zip fs rv).rev).mono x12)⟩
/-- C(..) of an error with an own __init__ -/
theorem se_err {k : Nat} {c : Str} {fs : List Str} (T : XErr X.prog X.w X.K X.mg X.base k c fs) (hr : Room (k + 1) X.A) (ha : SA X W Γ (a :: es) sr) (hg : Gl X c := by rfl) (hz : fs.length ≤ 1000 := by decide)
    (hdb : (c == ("__debug__" : Str)) = false := by decide) (he : starEach (a :: es) X.env = (false, eval a X.env) :: starEach es X.env := by rfl) (hpl : (backTo pos (starEach es X.env)).any (·.1) = false := by rfl) :
    SE X W Γ (.Call (.Name c p) (a :: es) [] pos) (eErr c fs sr) := by
  obtain ⟨C, fI, fd, ps, B, newId, initId, bmB, bm, hC, FB, hbm, ⟨nm, q, N, bs, sn, sub, ab, col, dd, k0, k1, k2, k3, k5, hCo⟩, kC, hi, ht, Fn, hb⟩ := T.ex
  obtain ⟨t, pt, kt⟩ := ha
  refine ⟨fun σ H Q => t σ H fun vs H1 => vs.length = fs.length ∧ ∀ b dx, H1 b = none → H1 dx = none → dx ≠ b → Q (.ref b) (upd (upd H1 dx (exd dx (fs.zip vs).reverse)) b (exo b C (some dx))), ⟨fun pins s σ H Q I h => ?_⟩, fun ρ M F ι σ H Q rl er h => ?_⟩
  · refine wpAny_Call_Name_kw (ld_glob I hg hC ?_ hdb)
    refine PySem.W.callWith_K (h₀ := X.base) I.ok.mod.kin kC (thn (pt.run pos pins s σ H _ I h) fun us s1 ⟨vs, H1, I1, r1, hl, q1⟩ => ⟨I1.kIn, ?_⟩) he hpl
    show wpAny _ _ (call (.ref C) us) _ _ _
    obtain ⟨hp, g, dr, tk, os⟩ := s1
    have hn : H1 (hp.objs.size + 1) = none := I1.hok.fresh (Nat.le_succ _)
    have hget : ((hp.push (PySem.W.kdv_tup us)).push (PySem.HandSPX.excO C hp.objs.size)).get? (hp.objs.size + 1) = some (PySem.HandSPX.excO C hp.objs.size) := by heap_get
    have I2 := I1.laid (t' := tk) (a := hp.objs.size + 1) (o := exo (hp.objs.size + 1) C none) (h' := (hp.push (PySem.W.kdv_tup us)).push (PySem.HandSPX.excO C hp.objs.size)) (fun b o e => Heap.get?_push_of_some _ (Heap.get?_push_of_some _ e)) (Nat.le_succ _) (exo_ok hget)
    have r2 : Vals (V.ref (hp.objs.size + 1) :: vs) (Value.ref (hp.objs.size + 1) :: us) := .cons rfl r1
    have hq : spE C fs (V.ref (hp.objs.size + 1) :: vs) (upd H1 (hp.objs.size + 1) (exo (hp.objs.size + 1) C none)) (fun v H2 => v = .non ∧ Q (.ref (hp.objs.size + 1)) H2) (fun _ _ _ => False) := by
      refine ⟨by simp [hl], _, vs, rfl, upd_same, fun dx n ne => ⟨rfl, ?_⟩⟩
      rw [upd_ne ne] at n
      rw [err_heap]
      exact q1 _ dx hn n ne
    have hl2 : (Value.ref (hp.objs.size + 1) :: us).length = ps.length := by
      rw [← Fn.len _ _ _ _ hq]; exact r2.length.symm
    have hus : us.length ≤ sizeLine := by
      rw [← Paired.length r1, hl, sizeLine_eq]
      omega
    have bb := hb _ (Value.ref (hp.objs.size + 1) :: us) I2.kIn (by rw [List.append_nil]; exact hl2)
    rw [List.append_nil] at bb
    refine wpAny_call (PySem.HandSPX.call_own FB hbm (I1.kIn _ _ hCo) (PySem.W.looks_findIn I1.kIn hi) (fun self => PySem.W.bind_fn I1.kIn self ht) hus
      (codeAny_mono (Fn.run _ X.stack _ _ ⟨Value.ref (hp.objs.size + 1) :: us, []⟩ (Value.ref (hp.objs.size + 1) :: us) _ _ (fun _ _ _ => False) (hr.make C us []) (I2.env0.make C us []) bb r2 hq) fun r s' hq' => ?_))
    cases r with
    | error er => exact passF pins σ _ _ er s' I2 hq'
    | ok fl =>
      cases fl with
      | ret u =>
        obtain ⟨v, H', I3, rv', ev, q3⟩ := I2.after hq'
        subst ev
        exact ⟨rv', ⟨V.ref (hp.objs.size + 1), H', I3, rfl, q3⟩⟩
      | next => exact False.elim hq'
      | brk => exact False.elim hq'
      | cont => exact False.elim hq'
  · refine kt ρ M F ι σ H _ rl er ((OkG.bind h).imp fun vs H1 hv => ?_)
    obtain ⟨ds, M1, F1, ι1, x1, rl1, rv1, h1⟩ := hv
    split at h1
    · rename_i hl
      refine ⟨by rw [← rv1.len, hl], fun b dx n nd ne => ?_⟩
      obtain ⟨F', x, rl', rv'⟩ := err_made (fs := fs) rl1 rv1 hC n nd ne
      exact h1 F' _ _ _ x rl' rv'
    · exact h1.elim
/-- an error class without own __init__ -/
structure XPl (K : PySem.W.Frag) (mg : Str → Option Value) (c : Str) : Prop where
  ex : ∃ (C : Addr) (B newId initId : String) (bmB : List Value), mg c = some (.ref C) ∧ ExcBaseFacts B newId initId bmB ∧ PySem.W.excIn K C bmB newId = true ∧ PySem.W.keepIn K (.ref C) = true
def eErr0 (c : Str) : ES := fun _ _ M => .ok (.err c []) M
theorem err0_made {F : Hp} {ι : List Addr} {M : Mem} {H : Hp} {c : Str} {C b : Addr} (rl : Rel X.K X.mg F ι M H) (hC : X.mg c = some (.ref C)) (n : H b = none) :
    Ext F ι H (upd F b (ExO (.ref C) b)) ι (upd H b (ExO (.ref C) b)) ∧ Rel X.K X.mg (upd F b (ExO (.ref C) b)) ι M (upd H b (ExO (.ref C) b)) ∧ RV X.K X.mg (upd F b (ExO (.ref C) b)) ι (.err c []) (.ref b) :=
  ⟨Ext.new rl n, rl.new n, .err0 upd_same hC⟩
theorem se_err1 {c m : Str} {j : Nat} {p2 : Pos} (T : XPl X.K X.mg c) (hg : Gl X c := by rfl) (hdb : (c == ("__debug__" : Str)) = false := by decide) :
    SE X W Γ (.Call (.Name c p) [.Constant (.str m) j p2] [] pos) (eErr0 c) := by
  obtain ⟨C, B, n, i, bm, hC, FB, q, kp⟩ := T.ex
  refine ⟨_, pe_exc1 FB q hC kp hg (pe_str (x := m)) (by rfl) hdb, fun ρ M F ι σ H Q rl er h => ?_⟩
  intro b hb
  obtain ⟨x, r, v⟩ := err0_made rl hC hb
  exact h _ _ _ _ x r v
theorem se_err0 {c : Str} (T : XPl X.K X.mg c) (hg : Gl X c := by rfl) (hdb : (c == ("__debug__" : Str)) = false := by decide) :
    SE X W Γ (.Call (.Name c p) [] [] pos) (eErr0 c) := by
  obtain ⟨C, B, n, i, bm, hC, FB, q, kp⟩ := T.ex
  refine ⟨fun σ H Q => ∀ b, H b = none → Q (.ref b) (upd H b (ExO (.ref C) b)), ⟨fun pins s σ H Q I h => ?_⟩, fun ρ M F ι σ H Q rl er h b hb => ?_⟩
  · refine wpAny_Call_Name_kw (ld_glob I hg hC ?_ hdb)
    refine PySem.W.callWith_K0 I.kIn kp ?_
    obtain ⟨bm, N, nm, qn, bs, hdct, sn, sub, ab, col, dd, k0, k1, k2, k3, k5, mN, hCo, hN, hni, TT⟩ := exc_obj I.kIn q
    refine wpAny_call_exc_subT FB TT hCo hN hni (fun h' e hm => ?_) (Nat.zero_le _)
    have hn : H e = none := I.hok.gone hm.new
    obtain ⟨t, ht, _, _⟩ := hm.there
    exact ⟨.ref e, _, I.laidN hm.keeps hm.new hn (exO_ok ht ⟨rfl, rfl⟩ rfl rfl rfl (show 4 < 6 by decide)), rfl, h e hn⟩
  · obtain ⟨x, r, v⟩ := err0_made rl hC hb
    exact h _ _ _ _ x r v
/-! ### a field of an error -/
def eErrF (cs : List Str) (f : Str) (o : ES) : ES := fun Γ ρ M => (o Γ ρ M).bind fun x M1 => match x with
  | .err c fs => if c ∈ cs then R.opt (fs.lookup f) M1 else .stuck
  | _ => .stuck
theorem se_errF {cs : List Str} {f : Str} (T : ∀ c ∈ cs, ∀ C, X.mg c = some (.ref C) → XfC X.K C ∧ PySem.W.findIn X.K (.ref C) f = some none) (ho : SE X W Γ e se) (hb : attributeBase e f X.env (eval e X.env) = eval e X.env := by rfl) :
    SE X W Γ (.Attribute e f pos) (eErrF cs f se) := by
  obtain ⟨t, pt, kt⟩ := ho
  refine ⟨fun σ H Q => t σ H fun x H1 => ∃ (a C dx : Addr) (gs : List (Str × V)) (v : V), x = .ref a ∧ XfC X.K C ∧ PySem.W.findIn X.K (.ref C) f = some none ∧ H1 a = some (exo a C (some dx)) ∧ H1 dx = some (exd dx gs) ∧ gs.lookup f = some v ∧ Q v H1, ⟨fun pins s σ H Q I h => ?_⟩, fun ρ M F ι σ H Q rl er h => ?_⟩
  · refine attr_of hb (thn (pt.run pins s σ H _ I h) fun u s1 hh => ?_)
    obtain ⟨x, H1, I1, rx, a, C, dx, gs, v, ex, T1, hno, ea, ed, l, q⟩ := hh
    subst ex
    obtain rfl : u = Value.ref a := rx
    obtain ⟨t1, ha⟩ := exo_at I1.hok ea
    obtain ⟨mA, hns, hr⟩ := exd_at I1.hok ed
    obtain ⟨od, ho, hl⟩ := lookIn_ns hns
    obtain ⟨u, hu, ru⟩ := RelO.some_of (v := v) (o := mA f) (by rw [← l]; exact hr f)
    have J : PySem.W.InstAt s1.heap a _ C (some od) := ⟨ha, rfl, rfl, ho⟩
    exact HandSPX.exc_get I1.kIn J T1.ga T1.gg T1.exC (PySem.W.findObj_own T1.hdC hno rfl (by rw [hl, hu])) (handed_of ru) ⟨v, H1, I1.tok _, ru, q⟩
  · refine kt ρ M F ι σ H _ rl er ((OkG.bind h).imp fun v H1 hv => ?_)
    obtain ⟨d, M1, F1, ι1, x1, rl1, rv1, h1⟩ := hv
    cases rv1 with
    | err ha hd hC hf =>
      dsimp only at h1
      split at h1
      · rename_i hc
        obtain ⟨z, hz, kk⟩ := okopt h1
        obtain ⟨v, hl, rv⟩ := hf.get hz
        obtain ⟨T1, T2⟩ := T _ hc _ hC
        exact ⟨_, _, _, _, v, rfl, T1, T2, rl1.sub _ _ ha, rl1.sub _ _ hd, hl, q_fin kk rl1 rv⟩
      · exact h1.elim
    | err0 ha hC =>
      dsimp only at h1
      split at h1
      · obtain ⟨z, hz, kk⟩ := okopt h1
        cases hz
      · exact h1.elim
    | _ => exact h1.elim
/-! ### isinstance of an error -/
def eErrI (tb : List (Str × Bool)) (o : ES) : ES := fun Γ ρ M => (o Γ ρ M).bind fun x M1 => match x with
  | .err c _ => R.opt ((tb.lookup c).map .bl) M1
  | _ => .stuck
def rIsR (K : PySem.W.Frag) : List V → Hp → VK → Prop := fun xs H Q => ∃ (a C : Addr) (cv : V) (u : Value) (b : Bool), xs = [.ref a, cv] ∧ XIs K C ∧ (∀ u', RelV cv u' → u' = u) ∧ (H a = some (ExO (.ref C) a) ∨ ∃ dx gs, H a = some (exo a C (some dx)) ∧ H dx = some (exd dx gs)) ∧ PySem.W.kitOne K (.ref C) u = some b ∧ Q (.bl b) H
theorem call_isR : CallR X (.builtin "isinstance") (rIsR X.K) := by
  intro pins s σ H xs us Q I r h
  obtain ⟨a, C, c, cv, b, rfl, T, hcv, hd, e, q⟩ := h
  cases r with
  | cons rx rr =>
    cases rr with
    | cons rt rr =>
      cases rr
      cases rx
      have ec := hcv _ rt
      subst ec
      have J : ∃ oe od, PySem.W.InstAt s.heap a oe C od := by
        rcases hd with ha | ⟨dx, gs, ha, hdd⟩
        · obtain ⟨⟨oe, vs, ho, hz, hd, _⟩, _, _⟩ := I.hok a _ ha
          exact ⟨oe, none, ho, hz.1, by unfold PySem.W.notCls; rw [hd] <;> rfl, by rw [hz.2]; trivial⟩
        · obtain ⟨t1, ho⟩ := exo_at I.hok ha
          obtain ⟨mA, hns, hr⟩ := exd_at I.hok hdd
          obtain ⟨od, hod, hl⟩ := lookIn_ns hns
          exact ⟨_, some od, ho, rfl, rfl, hod⟩
      obtain ⟨oe, od, J⟩ := J
      exact PySem.W.kia_one (PySem.W.kitx_exc T.hcl T.hg T.hk T.hs T.ha T.hn T.ht T.hm) I.kIn J e (fun z => nomatch z) fun tk => ⟨.bl b, H, I.kept (t' := tk) fun _ _ z => z, rfl, q⟩
theorem se_errI {x : Str} {v : V} {u : Value} {tb : List (Str × Bool)} {px : Pos} (hm : X.mg "isinstance" = none) (A : ClsArg X x v u) (T : ∀ q ∈ tb, ∀ C, X.mg q.1 = some (.ref C) → XIs X.K C ∧ PySem.W.kitOne X.K (.ref C) u = some q.2) (ha : SE X W Γ e se)
    (hgx : Gl X x := by rfl) (hg : Gl X "isinstance" := by rfl) (hdx : (x == ("__debug__" : Str)) = false := by decide) (hb : bootBuiltins "isinstance" = some (.builtin "isinstance") := by decide +kernel)
    (he : starEach [e, .Name x px] X.env = (false, eval e X.env) :: starEach [.Name x px] X.env := by rfl) (he2 : starEach [.Name x px] X.env = (false, eval (.Name x px) X.env) :: starEach [] X.env := by rfl) (hpl : (backTo pos (starEach [.Name x px] X.env)).any (·.1) = false := by rfl) :
    SE X W Γ (.Call (.Name "isinstance" p) [e, .Name x px] [] pos) (eErrI tb se) := by
  obtain ⟨t, q, k⟩ := ha
  refine ⟨_, pe_callB call_isR hg hm hb (pa_cons q (pa_cons (A.pe hgx hdx) pa_nil he2) he) (by decide) (by decide) he hpl, fun ρ M F ι σ H Q rl er h => ?_⟩
  refine k ρ M F ι σ H _ rl er ((OkG.bind h).imp fun v' H1 hv => ?_)
  obtain ⟨d, M1, F1, ι1, x1, rl1, rv1, h1⟩ := hv
  cases rv1 with
  | err ea hd hC hf =>
    obtain ⟨z, hz, kk⟩ := okopt h1
    obtain ⟨r, hr, rfl⟩ := Option.map_eq_some_iff.mp hz
    obtain ⟨T1, T2⟩ := T _ (lookup_mem hr) _ hC
    exact ⟨_, _, v, u, r, rfl, T1, fun u' q => A.one q, .inr ⟨_, _, rl1.sub _ _ ea, rl1.sub _ _ hd⟩, T2, q_fin kk rl1 (.bl _)⟩
  | err0 ea hC =>
    obtain ⟨z, hz, kk⟩ := okopt h1
    obtain ⟨r, hr, rfl⟩ := Option.map_eq_some_iff.mp hz
    obtain ⟨T1, T2⟩ := T _ (lookup_mem hr) _ hC
    exact ⟨_, _, v, u, r, rfl, T1, fun u' q => A.one q, .inl (rl1.sub _ _ ea), T2, q_fin kk rl1 (.bl _)⟩
  | _ => exact h1.elim
end
end MP
set_option maxRecDepth 100000
set_option maxHeartbeats 4000000
/-! ### an error over RuntimeError with one field -/
namespace PySem
namespace MPR
open PySem.W PySem.Calls PyProof.Rows Builtin Builtin.ObjectAttr
section
variable {prog : Program} {w : World} {A : Around} {R : Result → Shared → Prop} {hp : Heap} {g : Array GenState} {d : Drawn} {t : Nat} {os : OsState}
theorem osa1 {K : W.Frag} {nm : Str} {tk : Tok} {v : Value} {x C : Addr} {fv : Array Value} {cd : ClassData}
    (X : K.In hp) (hx : hp.get? x = some { cls := .ref C, data := .fields fv }) (hcd : W.clsIn K C = some cd) (hob : W.mroIn K C (.type "object") = some true) (hpass : refuseLoop (.ref x) "__setattr__" cd.mro = pure ()) (hh : cd.hasDict = true) (ha : W.findIn K (.ref C) nm = some none)
    (hq : ∀ h' tk' dx, (∀ b o, b ≠ x → hp.get? b = some o → h'.get? b = some o) → hp.objs.size ≤ dx → dx ≠ x → h'.get? x = some { cls := .ref C, dict := some dx, data := .fields fv } → h'.Ns1 dx (fun y => if y = nm then some v else none) → R (.ok (.ret .none)) ⟨h', g, d, tk', os⟩) :
    codeAny (model prog w) A (.call (.builtin "object.__setattr__") ⟨[.ref x, .str nm tk, v], []⟩) R ⟨hp, g, d, t, os⟩ := by
  have J : W.InstAt hp x { cls := .ref C, data := .fields fv } C none := ⟨hx, rfl, rfl, trivial⟩
  have S0 := F.store_object
  have nx : x ≠ hp.objs.size := Nat.ne_of_lt (Heap.lt_size hx)
  have l0 : W.Looks (model prog w) hp (isInstance (.ref x) (.type "object")) true := J.type.andThen (W.looks_mroIn X hob)
  refine codeAny_call_builtin S0.slot.plain S0.entry (@W.check_slot (model prog w) _ _ ⟨hp, g, d, t, os⟩ "object.__setattr__" "object" "__setattr__" (.ref x) [.str nm tk, v] [] _ S0.kind S0.split l0 (S0.args (.ref x) (.str nm tk) v) ?_)
  have l1 : W.Looks (model prog w) hp (mroOf (.ref C)) cd.mro := (W.looks_clsIn X hcd).andThen .now
  have l2 : W.Looks (model prog w) hp (storeTaker? none) none := .now
  have l3 : W.Looks (model prog w) hp (classData C) cd := W.looks_clsIn X hcd
  rw [W.osa_eq, refuse_eq]
  refine wpAny_bind (wpAny_bind (J.type.at (wpAny_bind (l1.at ?_))))
  rw [hpass]
  refine wpAny_pure (wpAny_bind (J.type.at (wpAny_bind ((W.looks_findIn X ha).at (wpAny_bind (l2.at ?_))))))
  show wpAny _ _ (storeInOwnDict (.ref x) (.ref C) (.str nm tk) nm v false) _ _ _
  obtain ⟨n1, bs, mro, ns, qn, hd, sn, sb, ab, col, del⟩ := cd
  dsimp only at hh
  subst hh
  unfold storeInOwnDict ownDictForStores
  repeat (first | with_reducible refine HandSPX.store_in_new ?_ ?_ | with_reducible refine wpAny_loadPart_at hx ?_ | with_reducible refine l3.at ?_ | wp_step)
  · exact ⟨_, #[], _, (Heap.get?_update_ne _ _ _ _ nx.symm).trans (Heap.get?_push_at rfl rfl), rfl, fun e he => absurd he (by simp), fun _ => rfl⟩
  · intro h' tk' hn' hs
    have hx1 : (hp.push { cls := .type "dict", data := .dict #[] }).get? x = some { cls := .ref C, data := .fields fv } := Heap.get?_push_of_some _ hx
    exact hq h' tk' hp.objs.size (fun b o hb ho => (hs.2 b (Nat.ne_of_lt (Heap.lt_size ho))).trans ((Heap.get?_update_ne _ _ _ _ hb).trans (Heap.get?_push_of_some _ ho))) (Nat.le_refl _) nx.symm ((hs.2 x nx).trans (Heap.get?_update_self _ hx1 rfl)) hn'
end
theorem typ_RE : typeOf (.type "RuntimeError") = pure (.type "type") := by kernel_rfl
end MPR
end PySem
namespace MP
open PySem L2
abbrev reTail : List Value := [.type "RuntimeError", .type "Exception", .type "BaseException", .type "object"]
structure OexR (K : PySem.W.Frag) (C : Addr) (f : Str) : Prop where
  cls : ∃ nm q N bs sn sub ab col dd k0 k1 k2 k3 k5, K.lookup C = some (excClassObj nm q C N bs reTail true sn sub ab col dd k0 k1 k2 k3 k5 "RuntimeError.__new__")
  sa : PySem.W.findIn K (.ref C) "__setattr__" = some (some (.builtin "object.__setattr__"))
  mo : PySem.W.mroIn K C (.type "object") = some true
  nf : PySem.W.findIn K (.ref C) f = some none
section
variable {X : Cx} {pins : List (Addr × Obj)} {σ : St} {H : Hp} {s : Shared} {a C dx : Addr} {f : Str} {y : V} {u : Value} {Q : Unit → Shared → Prop} {E : Value → Shared → Prop} {A : Around}
theorem ost1 (T : OexR X.K C f) (I : Inv X pins σ H s) (e : H a = some (exo a C none)) (ry : RelV y u)
    (h : ∀ dx s', H dx = none → dx ≠ a → Inv X pins σ (upd (upd H dx (exd dx [(f, y)])) a (exo a C (some dx))) s' → Q () s') : wpAny (model X.prog X.w) A (setAttr (.ref a) f u) Q E s := by
  obtain ⟨nm, q, N, bs, sn, sub, ab, col, dd, k0, k1, k2, k3, k5, hC⟩ := T.cls
  have hcl : PySem.W.clsIn X.K C = some { name := nm, bases := bs, mro := .ref C :: reTail, ns := N, qualname := q, hasDict := true, slotNames := sn, subclasses := sub, abstract := ab, collection := col, hasDel := false } := by unfold PySem.W.clsIn; rw [hC] <;> rfl
  obtain ⟨t1, ho⟩ := exo_at I.hok e
  obtain ⟨hp, g, d, t, os⟩ := s
  refine PySem.W.set_plain I.kIn (ox := { cls := .ref C, dict := none, data := .fields #[.ref t1, .none, .none, .none, .bool false, .none] }) (od := none) ⟨ho, rfl, rfl, trivial⟩ T.sa ?_
  have hp1 : PySem.refuseLoop (.ref a) "__setattr__" (Value.ref C :: reTail) = pure () := by
    rw [PySem.refuseLoop_ref]
    exact PySem.F.store_RuntimeError.passes _
  refine PySem.MPR.osa1 I.kIn ho hcl T.mo hp1 rfl T.nf (fun h' tk' dx k dn dne hx hn => ?_)
  have hnd : H dx = none := I.hok.fresh dn
  have nb : ∀ {b : Addr} {o : Obj}, hp.get? b = some o → b ≠ dx := fun {b o} z => Nat.ne_of_lt (Nat.lt_of_lt_of_le (Heap.lt_size z) dn)
  have nc : ∀ {b : Addr}, H b = none → b ≠ a := fun {b} n z => by rw [z, e] at n; cases n
  have nt : ∀ (b : Addr) (o : Obj), hp.get? b = some o → ∃ o', h'.get? b = some o' := fun b o z => by
    by_cases hb : b = a
    · subst hb; exact ⟨_, hx⟩
    · exact ⟨o, k b o hb z⟩
  have U : Un X.fs [] H (upd (upd H dx (exd dx [(f, y)])) a (exo a C (some dx))) hp h' :=
    ⟨fun b o z n _ _ => k b o (nc n) z, fun b o z n _ _ => ⟨o.slots, k b o (nc n) z⟩, fun b o z n _ => (upd_ne (nc n)).trans ((upd_ne (nb z)).trans n),
      fun b o z _ => nt b o z,
      fun b xs z => (upd_ne (at_ne e z exo_tup)).trans ((upd_ne (ne_of_none z hnd)).trans z), fun b o v z => (upd_ne (at_ne e z exo_frz)).trans ((upd_ne (ne_of_none z hnd)).trans z),
      fun b ps z => ⟨#[], ((upd_ne (at_ne e z exo_tbl)).trans ((upd_ne (ne_of_none z hnd)).trans z)).trans (by simp)⟩⟩
  refine h dx _ hnd dne (I.un (t' := tk') U fun b o z => ?_)
  by_cases hb : b = a
  · subst hb; rw [upd_same] at z; cases z
    exact exo_ok hx
  rw [upd_ne hb] at z
  by_cases hd : b = dx
  · subst hd; rw [upd_same] at z; cases z
    exact exd_ok hn (relO_put (fs := []) ry fun g => True.intro)
  rw [upd_ne hd] at z
  refine (I.hok b o z).stay (fun c v hc z1 => k c v ?_ z1) (fun c hc => (upd_ne (at_ne e hc exo_own)).trans ((upd_ne (ne_of_none hc hnd)).trans hc)) (fun c xs hc => (upd_ne (at_ne e hc exo_tup)).trans ((upd_ne (ne_of_none hc hnd)).trans hc))
  rcases hc with hc | hc
  · rw [hc]; exact hb
  · exact at_ne e hc exo_own
theorem init1 {us : List Value} {Q : Value → Shared → Prop} (T : OexR X.K C f) (I : Inv X pins σ H s) (e : H a = some (exo a C none)) (hl : us.length ≤ sizeLine) (h : ∀ s', Inv X pins σ H s' → Q .none s') :
    wpAny (model X.prog X.w) A (call (.builtin "RuntimeError.__init__") (.ref a :: us)) Q E s := by
  obtain ⟨nm, q, N, bs, sn, sub, ab, col, dd, k0, k1, k2, k3, k5, hC⟩ := T.cls
  obtain ⟨t1, ho⟩ := exo_at I.hok e
  obtain ⟨hp, g, d, t, os⟩ := s
  refine wpAny_call (PySem.HandSPX.init_base PySem.F.excBase_RuntimeError (fun Y => rfl) (I.kIn _ _ hC) ho hl fun h' t2 k hx => ?_)
  have J := I.write (t' := t) (x := a) (e := a) (o := exo a C none) (by rw [e]; exact True.intro) (.inl rfl) k ⟨_, hx⟩ (exo_ok hx)
  have eu : upd H a (exo a C none) = H := by
    funext b
    by_cases hb : b = a
    · rw [hb, upd_same, e]
    · exact upd_ne hb
  rw [eu] at J
  exact h _ J
end
section
variable {X : Cx} {o e : Expr} {es : List Expr} {to te : TE} {ta : TA} {C : Addr} {f : Str} {p p' p1 p2 pos : Pos}
def tReI (C : Addr) (ta : TA) : TE := fun σ H Q => ta σ H fun vs H1 => ∃ (a : Addr) (ws : List V), vs = .ref a :: ws ∧ ws.length ≤ 1000 ∧ H1 a = some (exo a C none) ∧ Q .non H1
def tOs1 (C : Addr) (f : Str) (to te : TE) : TS := fun D σ H => te σ H fun y H1 => to σ H1 fun x H2 => ∃ a : Addr, x = .ref a ∧ H2 a = some (exo a C none) ∧ ∀ dx, H2 dx = none → dx ≠ a → D.nx σ (upd (upd H2 dx (exd dx [(f, y)])) a (exo a C (some dx)))
theorem pe_reinit {pl : Sem Bool} (T : OexR X.K C f) (hm : X.mg "RuntimeError" = none) (vV : PySem.W.findCls X.K (.type "RuntimeError") (.type "type") "__init__" = some (.val (.builtin "RuntimeError.__init__"))) (ha : PA X (e :: es) ta) (hg : Gl X "RuntimeError" := by rfl)
    (hc : eval (.Call (.Attribute (.Name "RuntimeError" p1) "__init__" p2) (e :: es) [] pos) X.env = (do
      let ov ← eval (.Name "RuntimeError" p1) X.env
      standAt p2.atName
      let (f, first) ← holding [ov] (getMethod ov "__init__" pl)
      callWith pos f first (backTo pos (starEach (e :: es) X.env)) (backToKw pos (keywordEach [] X.env))) := by rfl)
    (he : starEach (e :: es) X.env = (false, eval e X.env) :: starEach es X.env := by rfl) (hpl : (backTo pos (starEach es X.env)).any (·.1) = false := by rfl) :
    PE X (.Call (.Attribute (.Name "RuntimeError" p1) "__init__" p2) (e :: es) [] pos) (tReI C ta) := by
  refine ⟨fun pins s σ H Q I h => ?_⟩
  refine PySem.W.methodCall_KW (ld_blt I hg hm PyProof.Rows.Boot.«RuntimeError» ?_ (by decide) (by decide)) hc
  obtain ⟨m, fr⟩ := I.fr
  refine PySem.W.method_type fr I.ok.mod.kin PySem.MPR.typ_RE (by decide +kernel) vV (by decide +kernel) ?_
  show wpAny _ _ (callWith pos (Value.builtin "RuntimeError.__init__") [] (backTo pos (starEach (e :: es) X.env)) []) _ _ _
  refine PyProof.Rows.callWith_method1 (thn (ha.run pos pins _ σ H _ (I.tok _) h) fun us s1 ⟨vs, H1, I1, r1, a, ws, ev, hl, ea, q⟩ => ?_) he hpl
  subst ev
  cases r1 with
  | @cons _ u0 _ ur ra rw' =>
    obtain rfl : u0 = Value.ref a := ra
    exact init1 T I1 ea (by rw [← Paired.length rw', sizeLine_eq]; omega) fun s' J => ⟨.non, H1, J, rfl, q⟩
theorem ps_os1 (T : OexR X.K C f) (ho : PE X o to) (he : PE X e te) (hs : swapsWith e (some (.Attribute o f p')) pos.line X.env = pure false := by rfl) : PS X (.Assign [.Attribute o f p'] e pos) (tOs1 C f to te) := by
  refine ⟨fun pins s σ H D I h => ?_⟩
  refine plainObj_wpAny_Assign_Attribute (thn (he.run pins s σ H _ I h) fun v s1 ⟨y, H1, I1, r1, q1⟩ => thn (ho.run pins s1 σ H1 _ I1 q1) fun u s2 ⟨x, H2, I2, r2, a, ex, ea, q⟩ => ?_) hs
  subst ex
  obtain rfl : u = Value.ref a := r2
  exact ost1 T I2 ea r1 fun dx s' n ne J => ⟨σ, _, J, q dx n ne⟩
end
section
variable {P : Program} {w : World} {K : PySem.W.Frag} {mg : Str → Option Value} {base : Heap} {x qual : Str} {st : Stmt} {fa : Addr} {fd : FuncData} {k : Nat} {f : Str} {ts : Str} {C : Addr}
theorem fnR1 (Fu : Fun K x qual st fa fd) (S : FnScope ["self", f] ["self", f] (defScope st))
    (body : ∀ (cdv : Value) (A : Around) (outer : List PySem.Env) (s : Shared) (H : Hp) (E : XK),
      PSs (cxOf (L2.CX P w) P w K mg base ["self", f] qual (defScope st) fa cdv A outer s H E) (defBody st) (tSeq (tDrop (tReI C (tCons (tVar 0) (tCons (tC (.str ts)) tNil)))) (tOs1 C f (tVar 0) (tVar 1)))) : FnOk P w K mg base (L2.CX P w) (k + 1) fa fd ["self", f] (spE C [f]) := by
  refine Fu.okX S (fun vs H Q E h => h.1) (fun cdv A outer s H vs Q E hr h => ⟨_, body cdv A outer s H E, ?_⟩)
  obtain ⟨hl, a, ys, rfl, ha, q⟩ := h
  match ys, hl with
  | [y], _ =>
    refine ⟨.ref a, rfl, a, _, rfl, by simp, ha, ?_⟩
    exact ⟨y, rfl, .ref a, rfl, a, rfl, ha, fun dx n ne => q dx n ne⟩
end
/-! ### the facts in one go -/
def xisB (K : PySem.W.Frag) (C : Addr) : Bool := (PySem.W.isClsIn K C && decide (PySem.W.findIn K (.ref C) "__getattribute__" = some (some (.builtin "BaseException.__getattribute__")))) && ((decide (PySem.W.findIn K (.ref C) "__getattr__" = some none) && decide (PySem.W.subIn K (.ref C) (.type "BaseException") = some true)) &&
  ((decide (PySem.W.findIn K (.ref C) "__class__" = some (some (.builtin "object.__class__"))) && decide (PySem.W.specialIn K (.builtin "object.__class__") "__get__" = some (some (.builtin "getset_descriptor.__get__")))) && (decide (PySem.W.takesIn K (.builtin "object.__class__") = some true) && decide (PySem.W.mroIn K C (.type "object") = some true))))
theorem xis_of {K : PySem.W.Frag} {C : Addr} (h : xisB K C = true) : XIs K C := by
  simp only [xisB, Bool.and_eq_true, decide_eq_true_eq] at h
  obtain ⟨⟨h1, h2⟩, ⟨h3, h4⟩, ⟨h5, h6⟩, h7, h8⟩ := h
  exact ⟨h1, h2, h3, h4, h5, h6, h7, h8⟩
def xffB (K : PySem.W.Frag) (C : Addr) (fs : List Str) : Bool := xfB K C && fs.all fun f => decide (PySem.W.findIn K (.ref C) f = some none)
theorem xff_of {K : PySem.W.Frag} {C : Addr} {fs : List Str} (h : xffB K C fs = true) : XfC K C ∧ XFree K C fs := by
  simp only [xffB, Bool.and_eq_true, List.all_eq_true, decide_eq_true_eq] at h
  exact ⟨xfB_ok h.1, h.2⟩
def xoxB (K : PySem.W.Frag) (C : Addr) : Bool := decide (PySem.W.findIn K (.ref C) "__setattr__" = some (some (.builtin "object.__setattr__"))) && (decide (PySem.W.subIn K (.ref C) (.type "BaseException") = some true) && (decide (PySem.W.typeIn K (.ref C) = some (.type "type")) && PySem.W.keepIn K (.ref C)))
def kitsB (K : PySem.W.Frag) (u : Value) (l : List (Addr × Bool)) : Bool := l.all fun q => decide (PySem.W.kitOne K (.ref q.1) u = some q.2)
inductive Fa (K : PySem.W.Frag) (mg : Str → Option Value) : List (Addr × Bool) → List (Str × Bool) → Prop
  | nil : Fa K mg [] []
  | cons {a : Addr} {c : Str} {b : Bool} {l : List (Addr × Bool)} {tb : List (Str × Bool)} : mg c = some (.ref a) → XIs K a → Fa K mg l tb → Fa K mg ((a, b) :: l) ((c, b) :: tb)
theorem kits_of {K : PySem.W.Frag} {mg : Str → Option Value} {u : Value} : ∀ {l : List (Addr × Bool)} {tb : List (Str × Bool)}, Fa K mg l tb → kitsB K u l = true → ∀ q ∈ tb, ∀ C, mg q.1 = some (.ref C) → XIs K C ∧ PySem.W.kitOne K (.ref C) u = some q.2
  | _, _, .nil, _ => fun q hq => by cases hq
  | _, _, .cons h x t, hk => fun q hq C hC => by
    simp only [kitsB, List.all_cons, Bool.and_eq_true, decide_eq_true_eq] at hk
    rcases List.mem_cons.mp hq with rfl | hq
    · rw [h] at hC
      cases hC
      exact ⟨x, hk.1⟩
    · exact kits_of t hk.2 q hq C hC
theorem ef_one {K : PySem.W.Frag} {mg : Str → Option Value} {c f : Str} {A : Addr} {fs : List Str} (hC : mg c = some (.ref A)) (h : XfC K A ∧ XFree K A fs) (hf : f ∈ fs) : ∀ c' ∈ [c], ∀ C, mg c' = some (.ref C) → XfC K C ∧ PySem.W.findIn K (.ref C) f = some none := by
  intro c' hc' C hC'
  rw [List.mem_singleton.mp hc', hC] at hC'
  cases hC'
  exact ⟨h.1, h.2 f hf⟩
end MP
set_option maxRecDepth 100000
set_option maxHeartbeats 4000000
namespace MP
open PySem L2
section
variable {X : Cx} {W : WX} {Γ : Calls} {e : Expr} {pos p : Pos}
/-! ### enumerate of a list that does not change any more -/
def aEnumZ (a : AS) : AS := fun Γ ρ M => (a Γ ρ M).bind fun x M1 => match x with
  | [.ref k] => match M1[k]? with
    | some (.lst xs) => .ok (pairsFrom 0 xs) (M1.set k .dead)
    | _ => .stuck
  | _ => .stuck
theorem si_enumZ {sa : AS} {elts : List Expr} {kk : Nat} {tpos : Pos} (hm : X.mg "enumerate" = none) (ha : SA X W Γ [e] sa) (hg : Gl X "enumerate" := by rfl) (hs : starEach [e] X.env = [(false, eval e X.env)] := by rfl) :
    SI X W Γ (.Tuple elts kk tpos) (.Call (.Name "enumerate" p) [e] [] pos) (aEnumZ sa) := by
  obtain ⟨t, q, k⟩ := ha
  refine ⟨_, pi_enum hg hm q hs, fun ρ M F ι σ H R rl er h => ?_⟩
  refine k ρ M F ι σ H _ rl er (OkG.bind h |>.imp fun v H1 hv => ?_)
  obtain ⟨d, M1, F1, ι1, x1, rl1, rv1, h1⟩ := hv
  split at h1
  · rename_i k
    split at h1
    · rename_i xs e
      obtain ⟨u, rfl, ru⟩ := rv1.one
      obtain ⟨a, o, ha, hf, ho, rm⟩ := rl1.at e (by intro z; cases z)
      cases ru with
      | ref hk =>
        rw [hk] at ha; cases ha
        cases o <;> simp only [RM] at rm
        rename_i vs
        have x := Ext.frz (H := H1) (o := .lst vs) hk hf
        exact ⟨_, _, rfl, SqL.of ho, h1 _ ι1 H1 _ x (rl1.frz hk hf ho) (.enumL (SqL.of upd_same) (rm.mono x))⟩
    · exact h1.elim
  · exact h1.elim
theorem oex_of {K : PySem.W.Frag} {C : Addr} (h : ∃ nm q N bs bm sn sub ab col dd k0 k1 k2 k3 k5, K.lookup C = some (excClassObj nm q C N bs bm true sn sub ab col dd k0 k1 k2 k3 k5 "ValueError.__new__") ∧ PySem.HandSPX.refsVE bm = true) (b : xoxB K C = true) : OexC K C := by
  simp only [xoxB, Bool.and_eq_true, decide_eq_true_eq] at b
  exact ⟨h, b.1, b.2.1, b.2.2.1, b.2.2.2⟩
theorem xox_sa {K : PySem.W.Frag} {C : Addr} (b : xoxB K C = true) : PySem.W.findIn K (.ref C) "__setattr__" = some (some (.builtin "object.__setattr__")) ∧ PySem.W.keepIn K (.ref C) = true := by
  simp only [xoxB, Bool.and_eq_true, decide_eq_true_eq] at b
  exact ⟨b.1, b.2.2.2⟩
end
end MP
set_option maxRecDepth 100000
set_option maxHeartbeats 4000000
namespace MP
open PySem L2
section
variable {X : Cx} {W : WX} {Γ : Calls} {a : Expr} {sr : AS} {pos p : Pos}
/-! ### list of a text -/
def rListS : List V → Hp → VK → Prop := fun xs H Q => ∃ z : Str, xs = [.str z] ∧ z.length ≤ sizeLine ∧ ∀ l, H l = none → Q (.ref l) (upd H l (.lst (z.cps.toList.map fun c => V.str ⟨#[c]⟩)))
theorem call_listS (hc : X.calm = true) : CallR X (.type "list") rListS := by
  intro pins s σ H xs us Q I r h
  obtain ⟨z, rfl, hz, q⟩ := h
  obtain ⟨u, rfl, t, rfl⟩ := vals1 r
  refine call_list_str (I.ok.hd hc) z t (hn := hz) fun h' tk acc c hk hS hacc => ?_
  refine ⟨.ref s.heap.objs.size, _, I.laid (t' := tk) hk (Nat.le_refl _) (show ObjOk X.prog X.w _ h' _ (.lst (z.cps.toList.map fun c => V.str ⟨#[c]⟩)) from ⟨?_, acc.toList, c, ?_, ?_⟩), rfl, q _ (I.hok.fresh (Nat.le_refl _))⟩
  · rw [List.length_map, Array.length_toList]; exact hz
  · refine vals_of_at (by rw [List.length_map, Array.length_toList, Array.length_toList, hacc.1]) fun j x u h1 h2 => ?_
    obtain ⟨k, t', hk', rfl⟩ := hacc.2 j u (by rw [← h2, Array.getElem?_toList])
    rw [List.getElem?_map, Array.getElem?_toList, hk'] at h1
    cases h1
    exact ⟨t', rfl⟩
  · rw [Array.toArray_toList]; exact hS
def dListS := f1 fun _ x => match x with
  | .str z => if z.length ≤ sizeLine then some (.lst (chars z)) else none
  | _ => none
theorem rv_chars {K : PySem.W.Frag} {mg : Str → Option Value} {F : Hp} {ι : List Addr} : ∀ l : List Nat, RVs K mg F ι (l.map fun c => D.str ⟨#[c]⟩) (l.map fun c => V.str ⟨#[c]⟩)
  | [] => .nil
  | _ :: l => .cons (.str _) (rv_chars l)
theorem o1_listS {K : PySem.W.Frag} {mg : Str → Option Value} : O1 K mg rListS dListS := by
  intro F ι M H Q x z u rl rx e k
  replace e := f1_some e
  obtain ⟨d, rfl, e⟩ := e
  obtain ⟨v, rfl, rv⟩ := rx.one
  split at e
  · split at e
    · rename_i hz
      cases e
      cases rv
      exact ⟨_, rfl, hz, fun l hl => q_newL k rl (rv_chars _) hl⟩
    · cases e
  · cases e
theorem se_listS (hc : X.calm = true) (hm : X.mg "list" = none) (ha : SA X W Γ [a] sr) (hg : Gl X "list" := by rfl) (he : starEach [a] X.env = (false, eval a X.env) :: starEach [] X.env := by rfl) (hpl : (backTo pos (starEach [] X.env)).any (·.1) = false := by rfl) : SE X W Γ (.Call (.Name "list" p) [a] [] pos) (eB dListS sr) := se_callTy (call_listS hc) o1_listS hm boot_list' ha hg (by decide) (by decide) he hpl
end
end MP
set_option maxRecDepth 100000
set_option maxHeartbeats 4000000
namespace MP
open PySem L2
def semStart : SS :=
  (sSeq (sAsg (eLc (aLst (eSl (eVar 0) oNone (oSome (eC (.int 63))))) (gN 4) tYes' (eB dInt (aCons (eVar 4) aNil)) [4]) (gN 1))
  (sSeq (sAsg (eLcM (aLst (eVar 1)) (gN 4) (tVal (e2 dGe (eB dAbs (aCons (eVar 4) aNil)) (e2 dPow (eC (.int 10)) (eC (.int 18))))) (eB dAbs (aCons (eVar 4) aNil)) [4]) (gN 2))
  (sSeq (sAsg (eLc (aLst (eVar 1)) (gN 4) (tVal (e2 dLt (eB dAbs (aCons (eVar 4) aNil)) (e2 dPow (eC (.int 10)) (eC (.int 18))))) (e2 dAdd (e2 dMod (eB dInt (aCons (eVar 4) aNil)) (eC (.int 2147483629))) (eC (.int 1))) [4]) (gN 3))
  (sRet (eLstM (aCons (eVar 2) (aCons (eVar 3) (aCons (eC (.int 0)) (aCons (e2 dAdd (eC (.int 7)) (eB dLen (aCons (eVar 1) aNil))) aNil)))))))))
def semDraw : SS :=
  (sSeq (sPar 2 3 (aCons (e2 dIx (eVar 0) (eC (.int 0))) (aCons (e2 dIx (eVar 0) (eC (.int 1))) aNil)))
  (sSeq (sAugIx (eVar 0) (eC (.int 2)) (eC (.int 1)))
  (sSeq (sIf (tAnd' (tTruth (eVar 2)) (tVal (e2 dEq (e2 dIx (eVar 2) (eC (.int 0))) (eC (.int 0))))) (sExpr (ePopAt (eVar 2) (eC (.int 0)))) sNil)
  (sSeq (sIf (tTruth (eVar 2)) (sSeq (sAsg (e2 dMod (eB dInt (aCons (e2 dIx (eVar 2) (eC (.int 0))) aNil)) (eVar 1)) (gN 4))
  (sSeq (sSetIx (eVar 2) (eC (.int 0)) (e2 dDiv (e2 dIx (eVar 2) (eC (.int 0))) (eVar 1)))
  (sRet (eVar 4)))) sNil)
  (sSeq (sAsg (eIf (tTruth (eVar 3)) (e2 dIx (eVar 3) (e2 dMod (eB dInt (aCons (e2 dIx (eVar 0) (eC (.int 2))) aNil)) (eB dLen (aCons (eVar 3) aNil)))) (eC (.int 3))) (gN 5))
  (sSeq (sSetIx (eVar 0) (eC (.int 3)) (e2 dMod (eB dInt (aCons (e2 dAdd (e2 dAdd (e2 dAdd (e2 dMulI (e2 dIx (eVar 0) (eC (.int 3))) (eC (.int 48271))) (e2 dMulI (eVar 5) (eC (.int 40692)))) (e2 dMulI (e2 dIx (eVar 0) (eC (.int 2))) (eC (.int 69621)))) (eC (.int 11))) aNil)) (eC (.int 2305843009213693951))))
  (sSeq (sAsg (e2 dMod (eB dInt (aCons (e2 dAdd (e2 dMulI (e2 dIx (eVar 0) (eC (.int 3))) (e2 dIx (eVar 0) (eC (.int 3)))) (e2 dMulI (eC (.int 1000003)) (e2 dIx (eVar 0) (eC (.int 2))))) aNil)) (eC (.int 2305843009213693921))) (gN 6))
  (sRet (e2 dMod (eB dInt (aCons (e2 dDiv (eVar 6) (eC (.int 4096))) aNil)) (eVar 1))))))))))
/-! ### the drawing -/
/-- the state stands at 1, its great numbers at 0 -/
structure StM (M : Mem) : Prop where
  ex : ∃ (gs : List Int) (ss : List Int) (c x : Int) (Y : Mem), M = .lst (gs.map D.int) :: .lst [.ref 0, .lst (ss.map D.int), .int c, .int x] :: Y
def restM (M : Mem) : Mem := M.drop 2
theorem ix0 {α : Type} (a : α) (l : List α) : atI (a :: l) 0 = some a := by simp [atI, ixN]
theorem cmulR (i : Int) {j : Int} (h1 : -(2 ^ 64) < j) (h2 : j < 2 ^ 64) : CMul i j := .inr ⟨h1, h2⟩
def drawT : SS :=
  (sSeq (sIf (tTruth (eVar 2)) (sSeq (sAsg (e2 dMod (eB dInt (aCons (e2 dIx (eVar 2) (eC (.int 0))) aNil)) (eVar 1)) (gN 4))
  (sSeq (sSetIx (eVar 2) (eC (.int 0)) (e2 dDiv (e2 dIx (eVar 2) (eC (.int 0))) (eVar 1)))
  (sRet (eVar 4)))) sNil)
  (sSeq (sAsg (eIf (tTruth (eVar 3)) (e2 dIx (eVar 3) (e2 dMod (eB dInt (aCons (e2 dIx (eVar 0) (eC (.int 2))) aNil)) (eB dLen (aCons (eVar 3) aNil)))) (eC (.int 3))) (gN 5))
  (sSeq (sSetIx (eVar 0) (eC (.int 3)) (e2 dMod (eB dInt (aCons (e2 dAdd (e2 dAdd (e2 dAdd (e2 dMulI (e2 dIx (eVar 0) (eC (.int 3))) (eC (.int 48271))) (e2 dMulI (eVar 5) (eC (.int 40692)))) (e2 dMulI (e2 dIx (eVar 0) (eC (.int 2))) (eC (.int 69621)))) (eC (.int 11))) aNil)) (eC (.int 2305843009213693951))))
  (sSeq (sAsg (e2 dMod (eB dInt (aCons (e2 dAdd (e2 dMulI (e2 dIx (eVar 0) (eC (.int 3))) (e2 dIx (eVar 0) (eC (.int 3)))) (e2 dMulI (eC (.int 1000003)) (e2 dIx (eVar 0) (eC (.int 2))))) aNil)) (eC (.int 2305843009213693921))) (gN 6))
  (sRet (e2 dMod (eB dInt (aCons (e2 dDiv (eVar 6) (eC (.int 4096))) aNil)) (eVar 1)))))))
theorem sem_draw : semDraw =
    (sSeq (sPar 2 3 (aCons (e2 dIx (eVar 0) (eC (.int 0))) (aCons (e2 dIx (eVar 0) (eC (.int 1))) aNil)))
  (sSeq (sAugIx (eVar 0) (eC (.int 2)) (eC (.int 1)))
  (sSeq (sIf (tAnd' (tTruth (eVar 2)) (tVal (e2 dEq (e2 dIx (eVar 2) (eC (.int 0))) (eC (.int 0))))) (sExpr (ePopAt (eVar 2) (eC (.int 0)))) sNil) drawT))) := rfl
theorem a4 (p q r s : D) : atI [p, q, r, s] 0 = some p ∧ atI [p, q, r, s] 1 = some q ∧ atI [p, q, r, s] 2 = some r ∧ atI [p, q, r, s] 3 = some s := ⟨rfl, rfl, rfl, rfl⟩
theorem x42 : ixN 4 2 = some 2 := rfl
theorem x43 : ixN 4 3 = some 3 := rfl
theorem ixc (n : Nat) : ixN (n + 1) 0 = some 0 := by simp [ixN]
theorem cmul1 (i : Int) : CMul i 48271 := .inr (by decide)
theorem cmul2 (i : Int) : CMul i 40692 := .inr (by decide)
theorem cmul3 (i : Int) : CMul i 69621 := .inr (by decide)
theorem cmul4 (i : Int) : CMul 1000003 i := .inl (by decide)
theorem cmul5 (i : Int) : CMul (i % 2305843009213693951) (i % 2305843009213693951) := .inl (by omega)
theorem log2_small {n : Nat} (h : n < 2 ^ 64) : n.log2 ≤ 64 := by
  by_cases h0 : n = 0
  · subst h0; decide
  · exact Nat.le_of_lt ((Nat.log2_lt h0).mpr h)
theorem cdiv (i : Int) {n : Int} (hn : 0 < n) (hn2 : n < 2 ^ 64) : CDivW i n := ⟨hn, Nat.lt_of_le_of_lt (log2_small (by omega)) (by decide)⟩
theorem cdiv4 (i : Int) : CDivW i 4096 := ⟨by decide, by decide⟩
theorem own_ix {ss : List Int} (h : ss ≠ []) (c : Int) : ∃ z, atI (ss.map D.int) (c % ((ss.map D.int).length : Int)) = some (.int z) := by
  have hl : 0 < ss.length := List.length_pos_iff.mpr h
  rw [List.length_map]
  have h1 : 0 ≤ c % (ss.length : Int) := Int.emod_nonneg _ (by omega)
  have h2 : c % (ss.length : Int) < ss.length := Int.emod_lt_of_pos _ (by omega)
  obtain ⟨m, hm⟩ : ∃ m : Nat, c % (ss.length : Int) = m := ⟨(c % (ss.length : Int)).toNat, by omega⟩
  rw [hm, MP.atI_nat, List.getElem?_map]
  have : m < ss.length := by omega
  exact ⟨ss[m], by rw [List.getElem?_eq_getElem this]; rfl⟩
theorem run_drawT (Γ : Calls) (gs ss : List Int) (c x n : Int) (Y : Mem) (hn : 0 < n) (hn2 : n < 2 ^ 64) : ∃ r M', drawT Γ [some (.ref 1), some (.int n), some (.ref 0), some (.lst (ss.map D.int)), none, none, none] (.lst (gs.map D.int) :: .lst [.ref 0, .lst (ss.map D.int), .int c, .int x] :: Y) = .ret (.int r) M' ∧ 0 ≤ r ∧ r < n ∧ StM M' ∧ restM M' = Y := by
  have hm : ∀ i : Int, 0 ≤ i % n ∧ i % n < n := fun i => ⟨Int.emod_nonneg _ (by omega), Int.emod_lt_of_pos _ hn⟩
  rcases gs with _ | ⟨g, gs⟩
  · by_cases hs : ss = []
    · subst hs
      have : ∃ r M', drawT Γ [some (.ref 1), some (.int n), some (.ref 0), some (.lst []), none, none, none] (.lst [] :: .lst [.ref 0, .lst [], .int c, .int x] :: Y) = .ret (.int (r % n)) M' ∧ ∃ x', M' = .lst [] :: .lst [.ref 0, .lst [], .int c, .int x'] :: Y := by
        simp [drawT, a4, x43, cmul1, cmul2, cmul3, cmul4, cmul5, cdiv4, hn]
        exact ⟨_, _, ⟨rfl, rfl⟩, _, rfl⟩
      obtain ⟨r, M', e, x', rfl⟩ := this
      exact ⟨_, _, e, (hm r).1, (hm r).2, ⟨[], [], c, x', Y, rfl⟩, rfl⟩
    · obtain ⟨z, hz⟩ := own_ix hs c
      have hl : 0 < ss.length := List.length_pos_iff.mpr hs
      rw [List.length_map] at hz
      have : ∃ r M', drawT Γ [some (.ref 1), some (.int n), some (.ref 0), some (.lst (ss.map D.int)), none, none, none] (.lst [] :: .lst [.ref 0, .lst (ss.map D.int), .int c, .int x] :: Y) = .ret (.int (r % n)) M' ∧ ∃ x', M' = .lst [] :: .lst [.ref 0, .lst (ss.map D.int), .int c, .int x'] :: Y := by
        have hs' : ss.isEmpty = false := by cases ss with
          | nil => exact absurd rfl hs
          | cons _ _ => rfl
        simp [drawT, a4, x43, cmul1, cmul2, cmul3, cmul4, cmul5, cdiv4, hn, hs', hl, hz]
        first | exact ⟨_, _, ⟨rfl, rfl⟩, _, rfl⟩ | exact ⟨_, _, rfl, _, rfl⟩
      obtain ⟨r, M', e, x', rfl⟩ := this
      exact ⟨_, _, e, (hm r).1, (hm r).2, ⟨[], ss, c, x', Y, rfl⟩, rfl⟩
  · refine ⟨g % n, .lst ((g / n :: gs).map D.int) :: .lst [.ref 0, .lst (ss.map D.int), .int c, .int x] :: Y, ?_, (hm g).1, (hm g).2, ⟨_, ss, c, x, Y, rfl⟩, rfl⟩
    simp [drawT, ix0, ixc, hn, cdiv _ hn hn2]
theorem run_draw (Γ : Calls) (M : Mem) (n : Int) (h : StM M) (hn : 0 < n) (hn2 : n < 2 ^ 64) : ∃ r M', runBody semDraw 7 Γ [.ref 1, .int n] M = .ok (.int r) M' ∧ 0 ≤ r ∧ r < n ∧ StM M' ∧ restM M' = restM M := by
  obtain ⟨gs, ss, c, x, Y, rfl⟩ := h.ex
  have key : ∃ gs' : List Int, ∀ k : SR → R D, k (semDraw (Γ) (startD 7 [.ref 1, .int n]) (.lst (gs.map D.int) :: .lst [.ref 0, .lst (ss.map D.int), .int c, .int x] :: Y)) = k (drawT (Γ) [some (.ref 1), some (.int n), some (.ref 0), some (.lst (ss.map D.int)), none, none, none] (.lst (gs'.map D.int) :: .lst [.ref 0, .lst (ss.map D.int), .int (c + 1), .int x] :: Y)) := by
    rw [sem_draw]
    rcases gs with _ | ⟨g, gs⟩
    · exact ⟨[], fun k => by simp [a4, x42]⟩
    · by_cases hg : g = 0
      · exact ⟨gs, fun k => by simp [a4, x42, ix0, hg]⟩
      · exact ⟨g :: gs, fun k => by simp [a4, x42, ix0, hg]⟩
  obtain ⟨gs', key⟩ := key
  obtain ⟨r, M', e, h1, h2, h3, h4⟩ := run_drawT (Γ) gs' ss (c + 1) x n Y hn hn2
  refine ⟨r, M', ?_, h1, h2, h3, h4⟩
  rw [body_eq, key SR.fin, e]
  rfl
theorem lc_ints {t : TSm} {el : ES} {Γ : Calls} {ρ : MP.Env} {i : Nat} {M : Mem} (ht : ∀ n : Int, ∃ b, t Γ (ρ.set i (some (.int n))) M = .ok b M) (he : ∀ n : Int, ∃ m, el Γ (ρ.set i (some (.int n))) M = .ok (.int m) M) : ∀ ns : List Int, ∃ ms : List Int, ms.length ≤ ns.length ∧ lcL (gN i) t el Γ ρ (ns.map D.int) M = .ok (ms.map D.int) M
  | [] => ⟨[], by simp, rfl⟩
  | n :: ns => by
    obtain ⟨ms, hl, e⟩ := lc_ints ht he ns
    obtain ⟨b, hb⟩ := ht n
    obtain ⟨m, hm⟩ := he n
    cases b with
    | true =>
      refine ⟨m :: ms, by simp; omega, ?_⟩
      rw [List.map_cons]
      unfold lcL
      simp only [x_gN, hb, hm, e, List.map_cons]
    | false =>
      refine ⟨ms, by simp; omega, ?_⟩
      rw [List.map_cons]
      unfold lcL
      simp only [x_gN, hb, e]
theorem pw (M : Mem) : dPow M (.int 10) (.int 18) = some (.int (10 ^ 18)) := by
  show (if CPow 10 18 then some (D.int (10 ^ (18 : Int).toNat)) else none) = _
  rw [if_pos (by decide)]
  rfl
theorem cut_map (ns : List Int) (lo hi : Option Int) : cutD (ns.map D.int) lo hi = (cutD ns lo hi).map D.int := by
  unfold cutD
  rw [List.length_map, ← List.map_drop, ← List.map_take]
theorem cut_len (ns : List Int) (lo hi : Option Int) : (cutD ns lo hi).length ≤ ns.length := by
  unfold cutD
  rw [List.length_take, List.length_drop]
  omega
theorem run_start (Γ : Calls) (ns : List Int) (h : ns.length ≤ 63) : ∃ M, runBody semStart 5 Γ [.scr (ns.map D.int)] [] = .ok (.ref 1) M ∧ StM M ∧ restM M = [] := by
  have hs : ∀ l : List Int, l.length ≤ 63 → (l.map D.int).length ≤ sizeLine := fun l h => by rw [List.length_map]; exact Nat.le_trans h (by decide)
  have h0 : (cutD ns none (some 63)).length ≤ 63 := Nat.le_trans (cut_len ns none (some 63)) h
  have e0 : dSl [] (.scr (ns.map D.int)) none (some 63) = some (.lst ((cutD ns none (some 63)).map D.int)) := by
    show some (D.lst (cutD (ns.map D.int) none (some 63))) = _
    rw [cut_map]
  generalize cutD ns none (some 63) = cs at h0 e0
  obtain ⟨c1, l1, q1⟩ := lc_ints (t := tYes') (el := eB dInt (aCons (eVar 4) aNil)) (Γ := Γ) (ρ := [some (.scr (ns.map D.int)), none, none, none, none]) (i := 4) (M := []) (fun n => ⟨true, rfl⟩) (fun n => ⟨n, by simp⟩) cs
  obtain ⟨c2, l2, q2⟩ := lc_ints (t := (tVal (e2 dGe (eB dAbs (aCons (eVar 4) aNil)) (e2 dPow (eC (.int 10)) (eC (.int 18)))))) (el := (eB dAbs (aCons (eVar 4) aNil))) (Γ := Γ) (ρ := [some (.scr (ns.map D.int)), some (.lst (c1.map D.int)), none, none, none]) (i := 4) (M := [])
    (fun n => ⟨_, by simp [pw]; rfl⟩) (fun n => ⟨_, by simp; rfl⟩) c1
  obtain ⟨c3, l3, q3⟩ := lc_ints (t := (tVal (e2 dLt (eB dAbs (aCons (eVar 4) aNil)) (e2 dPow (eC (.int 10)) (eC (.int 18)))))) (el := (e2 dAdd (e2 dMod (eB dInt (aCons (eVar 4) aNil)) (eC (.int 2147483629))) (eC (.int 1)))) (Γ := Γ) (ρ := [some (.scr (ns.map D.int)), some (.lst (c1.map D.int)), some (.ref 0), none, none]) (i := 4) (M := [.lst (c2.map D.int)])
    (fun n => ⟨_, by simp [pw]; rfl⟩) (fun n => ⟨_, by simp; rfl⟩) c1
  have k1 := kLc_eq _ _ _ (hs cs h0) q1
  have k2 := kLcM_eq _ _ _ (hs c1 (by omega)) q2
  have k3 := kLc_eq _ _ _ (hs c1 (by omega)) q3
  refine ⟨[.lst (c2.map D.int), .lst [.ref 0, .lst (c3.map D.int), .int 0, .int (7 + c1.length)]], ?_, ⟨c2, c3, _, _, [], rfl⟩, rfl⟩
  simp [body_eq, semStart, e0, k1, k2, k3]
theorem StM.eq {M : Mem} (h : StM M) : ∃ a b, M = a :: b :: restM M := by
  obtain ⟨gs, ss, c, x, Y, rfl⟩ := h.ex
  exact ⟨_, _, rfl⟩
theorem StM.with {M : Mem} (h : StM M) (Y : Mem) : ∃ a b, M = a :: b :: restM M ∧ StM (a :: b :: Y) := by
  obtain ⟨gs, ss, c, x, Y0, rfl⟩ := h.ex
  exact ⟨_, _, rfl, ⟨gs, ss, c, x, Y, rfl⟩⟩
theorem sIf_f {t : TSm} {a b : SS} {Γ : Calls} {ρ : MP.Env} {M M1 : Mem} (h : t Γ ρ M = .ok false M1) : sIf t a b Γ ρ M = b Γ ρ M1 := by simp [h]
theorem sIf_t {t : TSm} {a b : SS} {Γ : Calls} {ρ : MP.Env} {M M1 : Mem} (h : t Γ ρ M = .ok true M1) : sIf t a b Γ ρ M = a Γ ρ M1 := by simp [h]
theorem rng_ok (n : Nat) (h : n < 1000) (M : Mem) : rng1 [.int n] M = .ok (rints 0 n) M := by
  have rk : rngOk (n : Int) = true := by simp [rngOk]; omega
  rw [rng1_int, rk, if_pos rfl, Int.toNat_natCast]
theorem aRng1_ok {a : AS} {Γ : Calls} {ρ : MP.Env} {M M1 : Mem} {n : Nat} (h : a Γ ρ M = .ok [.int n] M1) (hn : n < 1000) : aRng1 a Γ ρ M = .ok (rints 0 n) M1 := by
  rw [x_rng1, h, bind_ok, rng_ok n hn]
theorem aRng1_okI {a : AS} {Γ : Calls} {ρ : MP.Env} {M M1 : Mem} {n : Int} (h : a Γ ρ M = .ok [.int n] M1) (h0 : 0 ≤ n) (hn : n < 1000) : aRng1 a Γ ρ M = .ok (rints 0 n.toNat) M1 :=
  aRng1_ok (n := n.toNat) (by rw [h, Int.toNat_of_nonneg h0]) (by omega)
theorem StM.app {M : Mem} (h : StM M) (X : Mem) : StM (M ++ X) := by
  obtain ⟨gs, ss, c, x, Y, rfl⟩ := h.ex
  exact ⟨gs, ss, c, x, Y ++ X, by simp⟩
theorem atI_mem {xs : List D} {r : Int} (h0 : 0 ≤ r) (h1 : r < xs.length) : ∃ d, atI xs r = some d ∧ d ∈ xs := by
  obtain ⟨m, rfl⟩ : ∃ m : Nat, r = m := ⟨r.toNat, by omega⟩
  have hm : m < xs.length := by omega
  exact ⟨xs[m], by rw [MP.atI_nat, List.getElem?_eq_getElem hm], List.getElem_mem hm⟩
theorem cutS_len (z : Str) (lo hi : Option Int) : (cutS z lo hi).length ≤ z.length := by
  unfold cutS Str.length
  simp only [List.size_toArray, List.length_take, List.length_drop, Array.length_toList]
  omega
theorem app_len (a b : Str) : (a ++ b).length = a.length + b.length := by
  rw [TL.len_tl, TL.tl_append, List.length_append, ← TL.len_tl, ← TL.len_tl]
end MP
set_option maxRecDepth 100000
set_option maxHeartbeats 4000000
namespace MP
open PySem L2
/-! ### words drawn -/
def chS (c : Nat) : Str := ⟨#[c]⟩
def LET : Str := Str.ofString "abcdefghijklmnopqrstuvwxyz"
def letters : List Nat := List.range' 97 26
theorem let_tl : TL.tl LET = letters := by decide +kernel
theorem let_len : LET.length = 26 := by decide +kernel
theorem mem_letters {c : Nat} : c ∈ letters ↔ 97 ≤ c ∧ c ≤ 122 := by
  unfold letters
  rw [List.mem_range'_1]
  omega
def keptS : List Str := [Str.ofString "class", Str.ofString "def", Str.ofString "enter", Str.ofString "exit", Str.ofString "return", Str.ofString "view", Str.ofString "copy", Str.ofString "new", Str.ofString "super", Str.ofString "wrap", Str.ofString "self", Str.ofString "none", Str.ofString "seen", Str.ofString "outside"]
structure Wd (w : Str) : Prop where
  l : ∀ c ∈ TL.tl w, c ∈ letters
  p : 1 ≤ w.length
  q : w.length ≤ 8
  k : w ∉ keptS
/-! texts walked -/
def kStrI (x : D) (M : Mem) : R (List D) := match x with
  | .str z => .ok (chars z) M
  | _ => .stuck
theorem x_aStr (Γ : Calls) (ρ : MP.Env) (M : Mem) (a : ES) : aStr a Γ ρ M = (a Γ ρ M).bind kStrI := by
  unfold aStr kStrI
  rfl
theorem kStrI_ok (z : Str) (M : Mem) : kStrI (.str z) M = .ok ((TL.tl z).map fun c => .str (chS c)) M := rfl
/-! x in a list of texts -/
theorem any_str (w : Str) : ∀ ks : List Str, (ks.map D.str).any (fun y => eqFD y (.str w)) = decide (w ∈ ks)
  | [] => by simp
  | k :: ks => by
    rw [List.map_cons, List.any_cons, any_str w ks]
    show ((k == w) || decide (w ∈ ks)) = _
    by_cases e : k = w
    · subst e; simp
    · have : (k == w) = false := beq_eq_false_iff_ne.mpr e
      rw [this]
      simp [Ne.symm e]
theorem all_flat : ∀ ks : List Str, (ks.map D.str).all flatD = true
  | [] => rfl
  | k :: ks => by rw [List.map_cons, List.all_cons, all_flat ks]; rfl
theorem inL_str (neg : Bool) (M : Mem) (w : Str) (ks : List Str) : dIn neg M (.str w) (.lst (ks.map D.str)) = some (.bl (if neg then !decide (w ∈ ks) else decide (w ∈ ks))) := by
  show Option.or none ((if flatD (.str w) = true ∧ (ks.map D.str).all flatD = true then some (D.bl (if neg then !((ks.map D.str).any fun y => eqFD y (.str w)) else (ks.map D.str).any fun y => eqFD y (.str w))) else none).or _) = _
  rw [if_pos ⟨rfl, all_flat ks⟩, any_str]
  rfl
theorem inT_str (neg : Bool) (M : Mem) (w : Str) (ks : List Str) : dIn neg M (.str w) (.tup (ks.map D.str)) = some (.bl (if neg then !decide (w ∈ ks) else decide (w ∈ ks))) := by
  show Option.or none ((if flatD (.str w) = true ∧ (ks.map D.str).all flatD = true then some (D.bl (if neg then !((ks.map D.str).any fun y => eqFD y (.str w)) else (ks.map D.str).any fun y => eqFD y (.str w))) else none).or _) = _
  rw [if_pos ⟨rfl, all_flat ks⟩, any_str]
  rfl
theorem in_sign (neg : Bool) (M : Mem) (c : Nat) (z : Str) : dIn neg M (.str (chS c)) (.str z) = some (.bl (if neg then !decide (c ∈ TL.tl z) else decide (c ∈ TL.tl z))) := by
  show Option.or (some (D.bl (if neg then !decide (c ∈ z.cps.toList) else decide (c ∈ z.cps.toList)))) _ = _
  rfl
/-! comprehensions -/
theorem lc_mapF {el : ES} {Γ : Calls} {ρ : MP.Env} {i : Nat} {α : Type} {f : α → D} {g : α → D} {M : Mem} : ∀ (xs : List α), (∀ x ∈ xs, el Γ (ρ.set i (some (f x))) M = .ok (g x) M) → lcL (gN i) tYes' el Γ ρ (xs.map f) M = .ok (xs.map g) M
  | [], _ => rfl
  | x :: xs, h => by
    have e := lc_mapF xs fun y hy => h y (List.mem_cons_of_mem _ hy)
    rw [List.map_cons]
    unfold lcL
    simp only [x_gN, x_tYes]
    rw [h x List.mem_cons_self]
    dsimp only
    rw [e]
    rfl
theorem lc_filter {t : TSm} {el : ES} {Γ : Calls} {ρ : MP.Env} {i : Nat} {α : Type} {f : α → D} {g : α → D} {p : α → Bool} {M : Mem} : ∀ (xs : List α), (∀ x ∈ xs, t Γ (ρ.set i (some (f x))) M = .ok (p x) M) → (∀ x ∈ xs, el Γ (ρ.set i (some (f x))) M = .ok (g x) M) → lcL (gN i) t el Γ ρ (xs.map f) M = .ok ((xs.filter p).map g) M
  | [], _, _ => rfl
  | x :: xs, ht, h => by
    have e := lc_filter xs (fun y hy => ht y (List.mem_cons_of_mem _ hy)) fun y hy => h y (List.mem_cons_of_mem _ hy)
    rw [List.map_cons]
    unfold lcL
    simp only [x_gN]
    rw [ht x List.mem_cons_self]
    cases q : p x with
    | true =>
      dsimp only
      rw [h x List.mem_cons_self]
      dsimp only
      rw [e, List.filter_cons, q]
      rfl
    | false =>
      dsimp only
      rw [e, List.filter_cons, q]
      rfl
/-- drawing items one after another -/
theorem lc_draws {el : ES} {Γ : Calls} {ρ : MP.Env} {i : Nat} {α : Type} {g : α → D} {P : α → Prop} {I : Mem → Prop} (h : ∀ d M, I M → ∃ x M', el Γ (ρ.set i (some d)) M = .ok (g x) M' ∧ P x ∧ I M') : ∀ (ds : List D) (M : Mem), I M → ∃ (xs : List α) (M' : Mem), lcL (gN i) tYes' el Γ ρ ds M = .ok (xs.map g) M' ∧ (∀ x ∈ xs, P x) ∧ xs.length = ds.length ∧ I M'
  | [], M, hM => ⟨[], M, rfl, by simp, rfl, hM⟩
  | d :: ds, M, hM => by
    obtain ⟨x, M1, e1, p1, h1⟩ := h d M hM
    obtain ⟨xs, M2, e2, p2, l2, h2⟩ := lc_draws h ds M1 h1
    refine ⟨x :: xs, M2, ?_, ?_, by simp [l2], h2⟩
    · unfold lcL
      simp only [x_gN, x_tYes]
      rw [e1]
      dsimp only
      rw [e2]
      rfl
    · intro y hy
      rcases List.mem_cons.mp hy with rfl | hy
      · exact p1
      · exact p2 y hy
theorem asStrs_mapF {α : Type} (f : α → Str) : ∀ xs : List α, asStrs (xs.map fun x => D.str (f x)) = some (xs.map f)
  | [] => rfl
  | x :: xs => by simp [asStrs, asStrs_mapF f xs]
theorem joinL_nil : ∀ l : List (List Nat), TL.joinL [] l = l.flatten
  | [] => rfl
  | [x] => by simp [TL.joinL]
  | x :: y :: r => by
    rw [show TL.joinL [] (x :: y :: r) = x ++ ([] ++ TL.joinL [] (y :: r)) from by simp [TL.joinL], joinL_nil (y :: r)]
    simp
theorem join_signs (cs : List Nat) : PySem.Txt.join (Str.ofString "") (cs.map chS) = ⟨cs.toArray⟩ := by
  apply TL.ext_tl
  rw [TL.join_eq, TL.tl_join, show TL.tl (Str.ofString "") = [] from by decide +kernel, joinL_nil, List.map_map]
  show (cs.map fun c => [c]).flatten = cs
  induction cs with
  | nil => rfl
  | cons c cs ih => rw [List.map_cons, List.flatten_cons, ih]; rfl
def semWord (kd : Nat) : SS :=
  (sSeq (sAsg (eC (.str "abcdefghijklmnopqrstuvwxyz")) (gN 2))
  (sSeq (sAsg (eJoin (eC (.str "")) (eLc (aRng1 (aCons (e2 dAdd (eC (.int 1)) (eCall kd (aCons (eVar 0) (aCons (eC (.int 7)) aNil)))) aNil)) (gN 6) tYes' (e2 dIx (eVar 2) (eCall kd (aCons (eVar 0) (aCons (eC (.int 26)) aNil)))) [6])) (gN 3))
  (sSeq (sAsg (eLst (aCons (eC (.str "class")) (aCons (eC (.str "def")) (aCons (eC (.str "enter")) (aCons (eC (.str "exit")) (aCons (eC (.str "return")) (aCons (eC (.str "view")) (aCons (eC (.str "copy")) (aCons (eC (.str "new")) (aCons (eC (.str "super")) (aCons (eC (.str "wrap")) (aCons (eC (.str "self")) (aCons (eC (.str "none")) (aCons (eC (.str "seen")) (aCons (eC (.str "outside")) aNil))))))))))))))) (gN 4))
  (sSeq (sAsg (e2 dAdd (eLst (aCons (eVar 3) aNil)) (eLc (aStr (eVar 2)) (gN 7) tYes' (e2 dAdd (eSl (eVar 3) oNone (oSome (eC (.int 7)))) (eVar 7)) [7])) (gN 5))
  (sRet (e2 dIx (eLc (aLst (eVar 5)) (gN 8) (tAnd' (tVal (e2 (dIn true) (eVar 8) (eVar 1))) (tVal (e2 (dIn true) (eVar 8) (eVar 4)))) (eVar 8) [8]) (eC (.int 0))))))))
/-- the last letters -/
theorem kept_last : ∀ w ∈ keptS, (TL.tl w).getLast? ≠ some 97 := by decide +kernel
theorem mk_tl (cs : List Nat) : TL.tl ⟨cs.toArray⟩ = cs := rfl
theorem cut7 {cs : List Nat} (h : cs.length ≤ 7) : cutS ⟨cs.toArray⟩ none (some 7) = ⟨cs.toArray⟩ := by
  unfold cutS
  have hl : (⟨cs.toArray⟩ : Str).length = cs.length := by simp [Str.length]
  have e2 : HT.sIx (⟨cs.toArray⟩ : Str).length (⟨cs.toArray⟩ : Str).length (some 7) = cs.length := by
    rw [show (7 : Int) = ((7 : Nat) : Int) from rfl, HT.sIx_nat, hl]
    omega
  have e1 : HT.sIx (⟨cs.toArray⟩ : Str).length 0 none = 0 := rfl
  rw [e1, e2]
  simp
theorem run_word {Γ : Calls} {kd : Nat} (hd : ∀ (M : Mem) (n : Int), StM M → 0 < n → n < 2 ^ 64 → ∃ r M', Γ kd [.ref 1, .int n] M = .ok (.int r) M' ∧ 0 ≤ r ∧ r < n ∧ StM M' ∧ restM M' = restM M) (M : Mem) (hM : StM M) :
    ∃ w M', runBody (semWord kd) 9 Γ [.ref 1, .lst []] M = .ok (.str w) M' ∧ Wd w ∧ StM M' ∧ restM M' = restM M := by
  obtain ⟨r, M1, e1, r0, r7, h1, y1⟩ := hd M 7 hM (by decide) (by decide)
  have hrng : aRng1 (aCons (e2 dAdd (eC (.int 1)) (eCall kd (aCons (eVar 0) (aCons (eC (.int 7)) aNil)))) aNil) Γ [some (.ref 1), some (.lst []), some (.str LET), none, none, none, none, none, none] M = .ok (rints 0 (1 + r).toNat) M1 :=
    aRng1_okI (by simp [e1]) (by omega) (by omega)
  obtain ⟨cs, M2, q2, hc, hl, h2, y2⟩ := lc_draws (el := e2 dIx (eVar 2) (eCall kd (aCons (eVar 0) (aCons (eC (.int 26)) aNil)))) (Γ := Γ) (ρ := [some (.ref 1), some (.lst []), some (.str LET), none, none, none, none, none, none]) (i := 6) (g := fun c => D.str (chS c)) (P := fun c => c ∈ letters) (I := fun M' => StM M' ∧ restM M' = restM M)
    (fun d M' hM' => by
      obtain ⟨i, M3, e3, i0, i1, h3, y3⟩ := hd M' 26 hM'.1 (by decide) (by decide)
      obtain ⟨m, rfl⟩ : ∃ m : Nat, i = m := ⟨i.toNat, by omega⟩
      refine ⟨97 + m, M3, ?_, mem_letters.mpr (by omega), h3, y3.trans hM'.2⟩
      have hx : dIx M3 (.str LET) (.int (m : Int)) = some (.str (chS (97 + m))) := by
        show (if LET.length ≤ sizeLine then (atI LET.cps.toList (m : Int)).map fun c => D.str ⟨#[c]⟩ else none) = _
        rw [if_pos (by rw [let_len]; decide), show LET.cps.toList = letters from let_tl, MP.atI_nat]
        have hm : m < 26 := by omega
        have : letters[m]? = some (97 + m) := by
          unfold letters
          rw [List.getElem?_range' (by omega)]
          simp
        rw [this]
        rfl
      simp [e3, hx]) (rints 0 (1 + r).toNat) M1 ⟨h1, y1⟩
  have hlen : 1 ≤ cs.length ∧ cs.length ≤ 7 := by rw [hl]; simp [rints]; omega
  have k2 := kLc_eq _ _ _ (show (rints 0 (1 + r).toNat).length ≤ sizeLine from Nat.le_trans (show _ ≤ 7 by simp [rints]; omega) (by decide)) q2
  have j2 : dJoin (Str.ofString "") M2 (.lst (cs.map fun c => D.str (chS c))) = some (.str ⟨cs.toArray⟩) := by
    rw [join_lst, asStrs_mapF, Option.bind_some, if_pos, join_signs]
    have hs : ((cs.map chS).map fun y : Str => y.length).sum = cs.length := by
      clear q2 hc hl hlen k2
      induction cs with
      | nil => rfl
      | cons c cs ih => rw [List.map_cons, List.map_cons, List.sum_cons, ih, show (chS c).length = 1 from rfl, List.length_cons]; omega
    rw [hs, show (Str.ofString "").length = 0 from by decide +kernel]
    simp
    omega
  generalize hw : (⟨cs.toArray⟩ : Str) = dr at j2
  have wl : dr.length = cs.length := by rw [← hw]; simp [Str.length]
  have wt : TL.tl dr = cs := by rw [← hw]
  have c7 : cutS dr none (some 7) = dr := by rw [← hw]; exact cut7 hlen.2
  have sz : dr.length ≤ sizeLine := Nat.le_trans (show _ ≤ 7 by omega) (by decide)
  have q4 : lcL (gN 7) tYes' (e2 dAdd (eSl (eVar 3) oNone (oSome (eC (.int 7)))) (eVar 7)) Γ [some (.ref 1), some (.lst []), some (.str LET), some (.str dr), some (.lst (keptS.map D.str)), none, none, none, none] (letters.map fun c => D.str (chS c)) M2 = .ok (letters.map fun c => D.str (dr ++ chS c)) M2 := by
    refine lc_mapF letters fun c _ => ?_
    have : dr.length + (chS c).length ≤ sizeLine := Nat.le_trans (show _ ≤ 8 by rw [show (chS c).length = 1 from rfl]; omega) (by decide)
    have s1 : dSl M2 (.str dr) none (some 7) = some (.str dr) := by
      show (if dr.length ≤ sizeLine then some (D.str (cutS dr none (some 7))) else none) = _
      rw [if_pos sz, c7]
    simp [s1, this]
  have k4 := kLc_eq _ _ _ (show (letters.map fun c => D.str (chS c)).length ≤ sizeLine by decide) q4
  let ways : List Str := dr :: letters.map fun c => dr ++ chS c
  have ew : [D.str dr] ++ (letters.map fun c => D.str (dr ++ chS c)) = ways.map D.str := by simp [ways]
  have q5 : lcL (gN 8) (tAnd' (tVal (e2 (dIn true) (eVar 8) (eVar 1))) (tVal (e2 (dIn true) (eVar 8) (eVar 4)))) (eVar 8) Γ [some (.ref 1), some (.lst []), some (.str LET), some (.str dr), some (.lst (keptS.map D.str)), some (.lst (ways.map D.str)), none, none, none] (ways.map D.str) M2 = .ok ((ways.filter fun w => !decide (w ∈ keptS)).map D.str) M2 := by
    refine lc_filter ways (fun w _ => ?_) fun w _ => ?_
    · have i1 : dIn true M2 (.str w) (.lst []) = some (.bl true) := inL_str true M2 w []
      have i2 := inL_str true M2 w keptS
      simp [i1, i2]
    · simp
  have k5 := kLc_eq _ _ _ (show (ways.map D.str).length ≤ sizeLine by simp [ways]; decide) q5
  have ha : dr ++ chS 97 ∈ ways.filter fun w => !decide (w ∈ keptS) := by
    refine List.mem_filter.mpr ⟨?_, ?_⟩
    · exact List.mem_cons_of_mem _ (List.mem_map.mpr ⟨97, mem_letters.mpr (by omega), rfl⟩)
    · simp only [Bool.not_eq_true', decide_eq_false_iff_not]
      intro hk
      have := kept_last _ hk
      rw [TL.tl_append] at this
      exact this (by simp [chS, TL.tl])
  obtain ⟨w, rest, er⟩ : ∃ w rest, (ways.filter fun w => !decide (w ∈ keptS)) = w :: rest := by
    cases h : ways.filter fun w => !decide (w ∈ keptS) with
    | nil => rw [h] at ha; simp at ha
    | cons w rest => exact ⟨w, rest, rfl⟩
  have hwm : w ∈ ways.filter fun w => !decide (w ∈ keptS) := by rw [er]; exact List.mem_cons_self
  obtain ⟨hw1, hw2⟩ := List.mem_filter.mp hwm
  have hg : Wd w := by
    refine ⟨?_, ?_, ?_, by simpa using hw2⟩
    · rcases List.mem_cons.mp hw1 with rfl | hm
      · rw [wt]; exact hc
      · obtain ⟨c, hcm, rfl⟩ := List.mem_map.mp hm
        rw [TL.tl_append, wt]
        intro x hx
        rcases List.mem_append.mp hx with hx | hx
        · exact hc x hx
        · have : x = c := by simpa [chS, TL.tl] using hx
          rw [this]; exact hcm
    · rcases List.mem_cons.mp hw1 with rfl | hm
      · omega
      · obtain ⟨c, hcm, rfl⟩ := List.mem_map.mp hm
        rw [app_len]; omega
    · rcases List.mem_cons.mp hw1 with rfl | hm
      · omega
      · obtain ⟨c, hcm, rfl⟩ := List.mem_map.mp hm
        rw [app_len, show (chS c).length = 1 from rfl]; omega
  refine ⟨w, M2, ?_, hg, h2, y2⟩
  rw [er] at k5
  have hk : ∀ ρ M, eLst (aCons (eC (.str "class")) (aCons (eC (.str "def")) (aCons (eC (.str "enter")) (aCons (eC (.str "exit")) (aCons (eC (.str "return")) (aCons (eC (.str "view")) (aCons (eC (.str "copy")) (aCons (eC (.str "new")) (aCons (eC (.str "super")) (aCons (eC (.str "wrap")) (aCons (eC (.str "self")) (aCons (eC (.str "none")) (aCons (eC (.str "seen")) (aCons (eC (.str "outside")) aNil)))))))))))))) Γ ρ M = .ok (.lst (keptS.map D.str)) M := fun ρ M => rfl
  have t1 : sAsg (eC (.str "abcdefghijklmnopqrstuvwxyz")) (gN 2) Γ (startD 9 [.ref 1, .lst []]) M = .next [some (.ref 1), some (.lst []), some (.str LET), none, none, none, none, none, none] M := rfl
  have t2 : sAsg (eJoin (eC (.str "")) (eLc (aRng1 (aCons (e2 dAdd (eC (.int 1)) (eCall kd (aCons (eVar 0) (aCons (eC (.int 7)) aNil)))) aNil)) (gN 6) tYes' (e2 dIx (eVar 2) (eCall kd (aCons (eVar 0) (aCons (eC (.int 26)) aNil)))) [6])) (gN 3) Γ [some (.ref 1), some (.lst []), some (.str LET), none, none, none, none, none, none] M = .next [some (.ref 1), some (.lst []), some (.str LET), some (.str dr), none, none, none, none, none] M2 := by
    simp [-x_rng1, -join_lst, hrng, k2, j2]
  have t3 : ∀ M, sAsg (eLst (aCons (eC (.str "class")) (aCons (eC (.str "def")) (aCons (eC (.str "enter")) (aCons (eC (.str "exit")) (aCons (eC (.str "return")) (aCons (eC (.str "view")) (aCons (eC (.str "copy")) (aCons (eC (.str "new")) (aCons (eC (.str "super")) (aCons (eC (.str "wrap")) (aCons (eC (.str "self")) (aCons (eC (.str "none")) (aCons (eC (.str "seen")) (aCons (eC (.str "outside")) aNil))))))))))))))) (gN 4) Γ [some (.ref 1), some (.lst []), some (.str LET), some (.str dr), none, none, none, none, none] M = .next [some (.ref 1), some (.lst []), some (.str LET), some (.str dr), some (.lst (keptS.map D.str)), none, none, none, none] M := fun M => rfl
  have t4 : sAsg (e2 dAdd (eLst (aCons (eVar 3) aNil)) (eLc (aStr (eVar 2)) (gN 7) tYes' (e2 dAdd (eSl (eVar 3) oNone (oSome (eC (.int 7)))) (eVar 7)) [7])) (gN 5) Γ [some (.ref 1), some (.lst []), some (.str LET), some (.str dr), some (.lst (keptS.map D.str)), none, none, none, none] M2 = .next [some (.ref 1), some (.lst []), some (.str LET), some (.str dr), some (.lst (keptS.map D.str)), some (.lst (ways.map D.str)), none, none, none] M2 := by
    rw [← ew]
    have s27 : 1 + letters.length ≤ sizeLine := by decide
    simp [x_aStr, kStrI_ok, let_tl, k4, s27]
  rw [body_eq]
  unfold semWord
  rw [x_seq, t1, andThen_next, x_seq, t2, andThen_next, x_seq, t3, andThen_next, x_seq, t4, andThen_next]
  have fr : ∀ M, kFrz (.lst (ways.map D.str)) M = .ok (ways.map D.str) M := fun M => rfl
  have i0 : dIx M2 (.lst (D.str w :: rest.map D.str)) (.int 0) = some (.str w) := ix0 (D.str w) (rest.map D.str)
  simp only [List.map_cons] at k5
  simp [k5, fr, i0]
end MP
set_option pp.maxSteps 40
set_option maxRecDepth 100000
set_option maxHeartbeats 4000000
namespace K12
open PySem L2 MP
abbrev TI_BadDeed : List (Str × Bool) := [("BadShape", false), ("BadLine", false), ("NoClass", false), ("BadField", false), ("TooMany", false), ("BadRow", false), ("BadMethod", false), ("BadDeed", true), ("BadPlace", false), ("BadWorld", false), ("BadLabel", false), ("BadGoal", false), ("BadWhen", false), ("BadMend", false), ("NoDoor", false), ("BadName", false), ("UnlikeFaces", false), ("Busy", false), ("NotAsked", false), ("Shut", false), ("HandedcopiesError", false)]
abbrev TI_BadField : List (Str × Bool) := [("BadShape", false), ("BadLine", false), ("NoClass", false), ("BadField", true), ("TooMany", false), ("BadRow", false), ("BadMethod", false), ("BadDeed", false), ("BadPlace", false), ("BadWorld", false), ("BadLabel", false), ("BadGoal", false), ("BadWhen", false), ("BadMend", false), ("NoDoor", false), ("BadName", false), ("UnlikeFaces", false), ("Busy", false), ("NotAsked", false), ("Shut", false), ("HandedcopiesError", false)]
abbrev TI_BadGoal : List (Str × Bool) := [("BadShape", false), ("BadLine", false), ("NoClass", false), ("BadField", false), ("TooMany", false), ("BadRow", false), ("BadMethod", false), ("BadDeed", false), ("BadPlace", false), ("BadWorld", false), ("BadLabel", false), ("BadGoal", true), ("BadWhen", false), ("BadMend", false), ("NoDoor", false), ("BadName", false), ("UnlikeFaces", false), ("Busy", false), ("NotAsked", false), ("Shut", false), ("HandedcopiesError", false)]
abbrev TI_BadLabel : List (Str × Bool) := [("BadShape", false), ("BadLine", false), ("NoClass", false), ("BadField", false), ("TooMany", false), ("BadRow", false), ("BadMethod", false), ("BadDeed", false), ("BadPlace", false), ("BadWorld", false), ("BadLabel", true), ("BadGoal", false), ("BadWhen", false), ("BadMend", false), ("NoDoor", false), ("BadName", false), ("UnlikeFaces", false), ("Busy", false), ("NotAsked", false), ("Shut", false), ("HandedcopiesError", false)]
abbrev TI_BadLine : List (Str × Bool) := [("BadShape", false), ("BadLine", true), ("NoClass", false), ("BadField", false), ("TooMany", false), ("BadRow", false), ("BadMethod", false), ("BadDeed", false), ("BadPlace", false), ("BadWorld", false), ("BadLabel", false), ("BadGoal", false), ("BadWhen", false), ("BadMend", false), ("NoDoor", false), ("BadName", false), ("UnlikeFaces", false), ("Busy", false), ("NotAsked", false), ("Shut", false), ("HandedcopiesError", false)]
abbrev TI_BadMend : List (Str × Bool) := [("BadShape", false), ("BadLine", false), ("NoClass", false), ("BadField", false), ("TooMany", false), ("BadRow", false), ("BadMethod", false), ("BadDeed", false), ("BadPlace", false), ("BadWorld", false), ("BadLabel", false), ("BadGoal", false), ("BadWhen", false), ("BadMend", true), ("NoDoor", false), ("BadName", false), ("UnlikeFaces", false), ("Busy", false), ("NotAsked", false), ("Shut", false), ("HandedcopiesError", false)]
abbrev TI_BadMethod : List (Str × Bool) := [("BadShape", false), ("BadLine", false), ("NoClass", false), ("BadField", false), ("TooMany", false), ("BadRow", false), ("BadMethod", true), ("BadDeed", false), ("BadPlace", false), ("BadWorld", false), ("BadLabel", false), ("BadGoal", false), ("BadWhen", false), ("BadMend", false), ("NoDoor", false), ("BadName", false), ("UnlikeFaces", false), ("Busy", false), ("NotAsked", false), ("Shut", false), ("HandedcopiesError", false)]
abbrev TI_BadName : List (Str × Bool) := [("BadShape", false), ("BadLine", false), ("NoClass", false), ("BadField", false), ("TooMany", false), ("BadRow", false), ("BadMethod", false), ("BadDeed", false), ("BadPlace", false), ("BadWorld", false), ("BadLabel", false), ("BadGoal", false), ("BadWhen", false), ("BadMend", false), ("NoDoor", false), ("BadName", true), ("UnlikeFaces", false), ("Busy", false), ("NotAsked", false), ("Shut", false), ("HandedcopiesError", false)]
abbrev TI_BadPlace : List (Str × Bool) := [("BadShape", false), ("BadLine", false), ("NoClass", false), ("BadField", false), ("TooMany", false), ("BadRow", false), ("BadMethod", false), ("BadDeed", false), ("BadPlace", true), ("BadWorld", false), ("BadLabel", false), ("BadGoal", false), ("BadWhen", false), ("BadMend", false), ("NoDoor", false), ("BadName", false), ("UnlikeFaces", false), ("Busy", false), ("NotAsked", false), ("Shut", false), ("HandedcopiesError", false)]
abbrev TI_BadRow : List (Str × Bool) := [("BadShape", false), ("BadLine", false), ("NoClass", false), ("BadField", false), ("TooMany", false), ("BadRow", true), ("BadMethod", false), ("BadDeed", false), ("BadPlace", false), ("BadWorld", false), ("BadLabel", false), ("BadGoal", false), ("BadWhen", false), ("BadMend", false), ("NoDoor", false), ("BadName", false), ("UnlikeFaces", false), ("Busy", false), ("NotAsked", false), ("Shut", false), ("HandedcopiesError", false)]
abbrev TI_BadShape : List (Str × Bool) := [("BadShape", true), ("BadLine", false), ("NoClass", false), ("BadField", false), ("TooMany", false), ("BadRow", false), ("BadMethod", false), ("BadDeed", false), ("BadPlace", false), ("BadWorld", false), ("BadLabel", false), ("BadGoal", false), ("BadWhen", false), ("BadMend", false), ("NoDoor", false), ("BadName", false), ("UnlikeFaces", false), ("Busy", false), ("NotAsked", false), ("Shut", false), ("HandedcopiesError", false)]
abbrev TI_BadWhen : List (Str × Bool) := [("BadShape", false), ("BadLine", false), ("NoClass", false), ("BadField", false), ("TooMany", false), ("BadRow", false), ("BadMethod", false), ("BadDeed", false), ("BadPlace", false), ("BadWorld", false), ("BadLabel", false), ("BadGoal", false), ("BadWhen", true), ("BadMend", false), ("NoDoor", false), ("BadName", false), ("UnlikeFaces", false), ("Busy", false), ("NotAsked", false), ("Shut", false), ("HandedcopiesError", false)]
abbrev TI_BadWorld : List (Str × Bool) := [("BadShape", false), ("BadLine", false), ("NoClass", false), ("BadField", false), ("TooMany", false), ("BadRow", false), ("BadMethod", false), ("BadDeed", false), ("BadPlace", false), ("BadWorld", true), ("BadLabel", false), ("BadGoal", false), ("BadWhen", false), ("BadMend", false), ("NoDoor", false), ("BadName", false), ("UnlikeFaces", false), ("Busy", false), ("NotAsked", false), ("Shut", false), ("HandedcopiesError", false)]
abbrev TI_Busy : List (Str × Bool) := [("BadShape", false), ("BadLine", false), ("NoClass", false), ("BadField", false), ("TooMany", false), ("BadRow", false), ("BadMethod", false), ("BadDeed", false), ("BadPlace", false), ("BadWorld", false), ("BadLabel", false), ("BadGoal", false), ("BadWhen", false), ("BadMend", false), ("NoDoor", false), ("BadName", false), ("UnlikeFaces", false), ("Busy", true), ("NotAsked", false), ("Shut", false), ("HandedcopiesError", false)]
abbrev TI_HandedcopiesError : List (Str × Bool) := [("BadShape", true), ("BadLine", true), ("NoClass", true), ("BadField", true), ("TooMany", true), ("BadRow", true), ("BadMethod", true), ("BadDeed", true), ("BadPlace", true), ("BadWorld", true), ("BadLabel", true), ("BadGoal", true), ("BadWhen", true), ("BadMend", true), ("NoDoor", true), ("BadName", true), ("UnlikeFaces", true), ("Busy", false), ("NotAsked", false), ("Shut", false), ("HandedcopiesError", true)]
abbrev TI_LookupError : List (Str × Bool) := [("BadShape", false), ("BadLine", false), ("NoClass", false), ("BadField", false), ("TooMany", false), ("BadRow", false), ("BadMethod", false), ("BadDeed", false), ("BadPlace", false), ("BadWorld", false), ("BadLabel", false), ("BadGoal", false), ("BadWhen", false), ("BadMend", false), ("NoDoor", false), ("BadName", false), ("UnlikeFaces", false), ("Busy", false), ("NotAsked", false), ("Shut", false), ("HandedcopiesError", false)]
abbrev TI_NoClass : List (Str × Bool) := [("BadShape", false), ("BadLine", false), ("NoClass", true), ("BadField", false), ("TooMany", false), ("BadRow", false), ("BadMethod", false), ("BadDeed", false), ("BadPlace", false), ("BadWorld", false), ("BadLabel", false), ("BadGoal", false), ("BadWhen", false), ("BadMend", false), ("NoDoor", false), ("BadName", false), ("UnlikeFaces", false), ("Busy", false), ("NotAsked", false), ("Shut", false), ("HandedcopiesError", false)]
abbrev TI_NoDoor : List (Str × Bool) := [("BadShape", false), ("BadLine", false), ("NoClass", false), ("BadField", false), ("TooMany", false), ("BadRow", false), ("BadMethod", false), ("BadDeed", false), ("BadPlace", false), ("BadWorld", false), ("BadLabel", false), ("BadGoal", false), ("BadWhen", false), ("BadMend", false), ("NoDoor", true), ("BadName", false), ("UnlikeFaces", false), ("Busy", false), ("NotAsked", false), ("Shut", false), ("HandedcopiesError", false)]
abbrev TI_NotAsked : List (Str × Bool) := [("BadShape", false), ("BadLine", false), ("NoClass", false), ("BadField", false), ("TooMany", false), ("BadRow", false), ("BadMethod", false), ("BadDeed", false), ("BadPlace", false), ("BadWorld", false), ("BadLabel", false), ("BadGoal", false), ("BadWhen", false), ("BadMend", false), ("NoDoor", false), ("BadName", false), ("UnlikeFaces", false), ("Busy", false), ("NotAsked", true), ("Shut", false), ("HandedcopiesError", false)]
abbrev TI_RuntimeError : List (Str × Bool) := [("BadShape", false), ("BadLine", false), ("NoClass", false), ("BadField", false), ("TooMany", false), ("BadRow", false), ("BadMethod", false), ("BadDeed", false), ("BadPlace", false), ("BadWorld", false), ("BadLabel", false), ("BadGoal", false), ("BadWhen", false), ("BadMend", false), ("NoDoor", false), ("BadName", false), ("UnlikeFaces", false), ("Busy", true), ("NotAsked", true), ("Shut", true), ("HandedcopiesError", false)]
abbrev TI_Shut : List (Str × Bool) := [("BadShape", false), ("BadLine", false), ("NoClass", false), ("BadField", false), ("TooMany", false), ("BadRow", false), ("BadMethod", false), ("BadDeed", false), ("BadPlace", false), ("BadWorld", false), ("BadLabel", false), ("BadGoal", false), ("BadWhen", false), ("BadMend", false), ("NoDoor", false), ("BadName", false), ("UnlikeFaces", false), ("Busy", false), ("NotAsked", false), ("Shut", true), ("HandedcopiesError", false)]
abbrev TI_TooMany : List (Str × Bool) := [("BadShape", false), ("BadLine", false), ("NoClass", false), ("BadField", false), ("TooMany", true), ("BadRow", false), ("BadMethod", false), ("BadDeed", false), ("BadPlace", false), ("BadWorld", false), ("BadLabel", false), ("BadGoal", false), ("BadWhen", false), ("BadMend", false), ("NoDoor", false), ("BadName", false), ("UnlikeFaces", false), ("Busy", false), ("NotAsked", false), ("Shut", false), ("HandedcopiesError", false)]
abbrev TI_UnlikeFaces : List (Str × Bool) := [("BadShape", false), ("BadLine", false), ("NoClass", false), ("BadField", false), ("TooMany", false), ("BadRow", false), ("BadMethod", false), ("BadDeed", false), ("BadPlace", false), ("BadWorld", false), ("BadLabel", false), ("BadGoal", false), ("BadWhen", false), ("BadMend", false), ("NoDoor", false), ("BadName", false), ("UnlikeFaces", true), ("Busy", false), ("NotAsked", false), ("Shut", false), ("HandedcopiesError", false)]
abbrev TI_ValueError : List (Str × Bool) := [("BadShape", true), ("BadLine", true), ("NoClass", true), ("BadField", true), ("TooMany", true), ("BadRow", true), ("BadMethod", true), ("BadDeed", true), ("BadPlace", true), ("BadWorld", true), ("BadLabel", true), ("BadGoal", true), ("BadWhen", true), ("BadMend", true), ("NoDoor", true), ("BadName", true), ("UnlikeFaces", true), ("Busy", false), ("NotAsked", false), ("Shut", false), ("HandedcopiesError", true)]
def sem__law_start : SS :=
  (sSeq (sAsg (eLc (aLst (eSl (eVar 0) oNone (oSome (eC (.int 63))))) (gN 4) tYes' (eB dInt (aCons (eVar 4) aNil)) [4]) (gN 1))
  (sSeq (sAsg (eLcM (aLst (eVar 1)) (gN 4) (tVal (e2 dGe (eB dAbs (aCons (eVar 4) aNil)) (e2 dPow (eC (.int 10)) (eC (.int 18))))) (eB dAbs (aCons (eVar 4) aNil)) [4]) (gN 2))
  (sSeq (sAsg (eLc (aLst (eVar 1)) (gN 4) (tVal (e2 dLt (eB dAbs (aCons (eVar 4) aNil)) (e2 dPow (eC (.int 10)) (eC (.int 18))))) (e2 dAdd (e2 dMod (eB dInt (aCons (eVar 4) aNil)) (eC (.int 2147483629))) (eC (.int 1))) [4]) (gN 3))
  (sRet (eLstM (aCons (eVar 2) (aCons (eVar 3) (aCons (eC (.int 0)) (aCons (e2 dAdd (eC (.int 7)) (eB dLen (aCons (eVar 1) aNil))) aNil)))))))))
def sem__law_draw : SS :=
  (sSeq (sPar 2 3 (aCons (e2 dIx (eVar 0) (eC (.int 0))) (aCons (e2 dIx (eVar 0) (eC (.int 1))) aNil)))
  (sSeq (sAugIx (eVar 0) (eC (.int 2)) (eC (.int 1)))
  (sSeq (sIf (tAnd' (tTruth (eVar 2)) (tVal (e2 dEq (e2 dIx (eVar 2) (eC (.int 0))) (eC (.int 0))))) (sExpr (ePopAt (eVar 2) (eC (.int 0)))) sNil)
  (sSeq (sIf (tTruth (eVar 2)) (sSeq (sAsg (e2 dMod (eB dInt (aCons (e2 dIx (eVar 2) (eC (.int 0))) aNil)) (eVar 1)) (gN 4))
  (sSeq (sSetIx (eVar 2) (eC (.int 0)) (e2 dDiv (e2 dIx (eVar 2) (eC (.int 0))) (eVar 1)))
  (sRet (eVar 4)))) sNil)
  (sSeq (sAsg (eIf (tTruth (eVar 3)) (e2 dIx (eVar 3) (e2 dMod (eB dInt (aCons (e2 dIx (eVar 0) (eC (.int 2))) aNil)) (eB dLen (aCons (eVar 3) aNil)))) (eC (.int 3))) (gN 5))
  (sSeq (sSetIx (eVar 0) (eC (.int 3)) (e2 dMod (eB dInt (aCons (e2 dAdd (e2 dAdd (e2 dAdd (e2 dMulI (e2 dIx (eVar 0) (eC (.int 3))) (eC (.int 48271))) (e2 dMulI (eVar 5) (eC (.int 40692)))) (e2 dMulI (e2 dIx (eVar 0) (eC (.int 2))) (eC (.int 69621)))) (eC (.int 11))) aNil)) (eC (.int 2305843009213693951))))
  (sSeq (sAsg (e2 dMod (eB dInt (aCons (e2 dAdd (e2 dMulI (e2 dIx (eVar 0) (eC (.int 3))) (e2 dIx (eVar 0) (eC (.int 3)))) (e2 dMulI (eC (.int 1000003)) (e2 dIx (eVar 0) (eC (.int 2))))) aNil)) (eC (.int 2305843009213693921))) (gN 6))
  (sRet (e2 dMod (eB dInt (aCons (e2 dDiv (eVar 6) (eC (.int 4096))) aNil)) (eVar 1))))))))))
def sem__law_of : SS :=
  (sRet (e2 dIx (eVar 1) (eCall 1 (aCons (eVar 0) (aCons (eB dLen (aCons (eVar 1) aNil)) aNil)))))
def sem__law_value : SS :=
  (sSeq (sAsg (e2 dSub (eCall 1 (aCons (eVar 0) (aCons (e2 dPow (eC (.int 10)) (eC (.int 12))) aNil))) (eCall 1 (aCons (eVar 0) (aCons (eC (.int 1000)) aNil)))) (gN 1))
  (sSeq (sAsg (eJoin (eC (.str "")) (eLc (aRng1 (aCons (eCall 1 (aCons (eVar 0) (aCons (eC (.int 9)) aNil))) aNil)) (gN 4) tYes' (eCall 2 (aCons (eVar 0) (aCons (eB dListS (aCons (eC (.str "abz09 [].,")) aNil)) aNil))) [4])) (gN 2))
  (sSeq (sAsg (eLst (aCons (eVar 1) (aCons (eVar 2) (aCons (eTup (aCons (eVar 1) (aCons (eVar 2) aNil))) (aCons (eLst (aCons (eVar 2) (aCons (eC .non) aNil))) (aCons (eC .non) (aCons (eC (.bl true)) (aCons (eC (.bl false)) (aCons (eTup aNil) (aCons (eNeg (eC (.int 1))) (aCons (e2 dAdd (eC (.str "seen ")) (eVar 2)) aNil))))))))))) (gN 3))
  (sRet (eCall 2 (aCons (eVar 0) (aCons (eVar 3) aNil)))))))
def sem__law_fields_stand : SS :=
  (sSeq (sAsg (eErr "BadRow" ["owner", "method", "at"] (aCons (eVar 0) (aCons (eVar 1) (aCons (eVar 2) aNil)))) (gN 3))
  (sSeq (sAsg (eErr "BadMethod" ["owner", "method"] (aCons (eVar 1) (aCons (eVar 2) aNil))) (gN 4))
  (sSeq (sIf (tOr' (tVal (e2 dNe (eLst (aCons (eErrF ["BadRow"] "owner" (eVar 3)) (aCons (eErrF ["BadRow"] "method" (eVar 3)) (aCons (eErrF ["BadRow"] "at" (eVar 3)) aNil)))) (eLst (aCons (eVar 0) (aCons (eVar 1) (aCons (eVar 2) aNil)))))) (tVal (e2 dNe (eLst (aCons (eErrF ["BadMethod"] "owner" (eVar 4)) (aCons (eErrF ["BadMethod"] "method" (eVar 4)) aNil))) (eLst (aCons (eVar 1) (aCons (eVar 2) aNil)))))) (sRet (eC (.bl false))) sNil)
  (sSeq (sIf (tVal (e2 dNe (eLst (aCons (eErrF ["BadShape"] "text" (eErr "BadShape" ["text"] (aCons (eVar 0) aNil))) (aCons (eErrF ["BadLine"] "at" (eErr "BadLine" ["at"] (aCons (eVar 1) aNil))) (aCons (eErrF ["NoClass"] "name" (eErr "NoClass" ["name"] (aCons (eVar 2) aNil))) (aCons (eErrF ["BadField"] "name" (eErr "BadField" ["name"] (aCons (eVar 0) aNil))) (aCons (eErrF ["TooMany"] "what" (eErr "TooMany" ["what"] (aCons (eVar 1) aNil))) aNil)))))) (eLst (aCons (eVar 0) (aCons (eVar 1) (aCons (eVar 2) (aCons (eVar 0) (aCons (eVar 1) aNil)))))))) (sRet (eC (.bl false))) sNil)
  (sSeq (sIf (tVal (e2 dNe (eLst (aCons (eErrF ["BadDeed"] "deed" (eErr "BadDeed" ["deed"] (aCons (eVar 2) aNil))) (aCons (eErrF ["BadPlace"] "place" (eErr "BadPlace" ["place"] (aCons (eVar 0) aNil))) (aCons (eErrF ["BadWorld"] "form" (eErr "BadWorld" ["form"] (aCons (eVar 1) aNil))) (aCons (eErrF ["BadLabel"] "label" (eErr "BadLabel" ["label"] (aCons (eVar 2) aNil))) (aCons (eErrF ["BadGoal"] "goal" (eErr "BadGoal" ["goal"] (aCons (eVar 0) aNil))) aNil)))))) (eLst (aCons (eVar 2) (aCons (eVar 0) (aCons (eVar 1) (aCons (eVar 2) (aCons (eVar 0) aNil)))))))) (sRet (eC (.bl false))) sNil)
  (sSeq (sIf (tVal (e2 dNe (eLst (aCons (eErrF ["BadWhen"] "when" (eErr "BadWhen" ["when"] (aCons (eVar 1) aNil))) (aCons (eErrF ["BadMend"] "at" (eErr "BadMend" ["at"] (aCons (eVar 2) aNil))) (aCons (eErrF ["NoDoor"] "door" (eErr "NoDoor" ["door"] (aCons (eVar 0) aNil))) (aCons (eErrF ["BadName"] "name" (eErr "BadName" ["name"] (aCons (eVar 1) aNil))) (aCons (eErrF ["UnlikeFaces"] "method" (eErr "UnlikeFaces" ["method"] (aCons (eVar 2) aNil))) aNil)))))) (eLst (aCons (eVar 1) (aCons (eVar 2) (aCons (eVar 0) (aCons (eVar 1) (aCons (eVar 2) aNil)))))))) (sRet (eC (.bl false))) sNil)
  (sRet (e2 dEq (eErrF ["Shut"] "method" (eErr "Shut" ["method"] (aCons (eVar 0) aNil))) (eVar 0)))))))))
def sem__law_first : SS :=
  (sRet (eLst (aCons (eErrI TI_BadShape (eVar 0)) (aCons (eErrI TI_BadLine (eVar 0)) (aCons (eErrI TI_NoClass (eVar 0)) (aCons (eErrI TI_BadField (eVar 0)) (aCons (eErrI TI_TooMany (eVar 0)) (aCons (eErrI TI_BadRow (eVar 0)) (aCons (eErrI TI_BadMethod (eVar 0)) (aCons (eErrI TI_BadDeed (eVar 0)) (aCons (eErrI TI_BadPlace (eVar 0)) (aCons (eErrI TI_BadWorld (eVar 0)) aNil))))))))))))
def sem__law_second : SS :=
  (sRet (eLst (aCons (eErrI TI_BadLabel (eVar 0)) (aCons (eErrI TI_BadGoal (eVar 0)) (aCons (eErrI TI_BadWhen (eVar 0)) (aCons (eErrI TI_BadMend (eVar 0)) (aCons (eErrI TI_NoDoor (eVar 0)) (aCons (eErrI TI_BadName (eVar 0)) (aCons (eErrI TI_UnlikeFaces (eVar 0)) (aCons (eErrI TI_Busy (eVar 0)) (aCons (eErrI TI_NotAsked (eVar 0)) (aCons (eErrI TI_Shut (eVar 0)) aNil))))))))))))
def sem_law : SS :=
  (sSeq (sAsg (eCall 0 (aCons (eVar 0) aNil)) (gN 1))
  (sSeq (sFor (aRng1 (aCons (eC (.int 4)) aNil)) (gN 2) (sSeq (sAsg (eLc (aRng1 (aCons (eC (.int 3)) aNil)) (gN 10) tYes' (eCall 3 (aCons (eVar 1) aNil)) [10]) (gLstD 3 (gsCons (gN 3) (gsCons (gN 4) (gsCons (gN 5) gsNil')))))
  (sSeq (sIf (tNot' (tTruth (eCall 4 (aCons (eVar 3) (aCons (eVar 4) (aCons (eVar 5) aNil)))))) (sRet (eC (.bl false))) sNil)
  (sSeq (sAsg (eLstM (aCons (eErr "BadShape" ["text"] (aCons (eVar 3) aNil)) (aCons (eErr "BadLine" ["at"] (aCons (eVar 4) aNil)) (aCons (eErr "NoClass" ["name"] (aCons (eVar 5) aNil)) (aCons (eErr "BadField" ["name"] (aCons (eVar 3) aNil)) (aCons (eErr "TooMany" ["what"] (aCons (eVar 4) aNil)) (aCons (eErr "BadRow" ["owner", "method", "at"] (aCons (eVar 3) (aCons (eVar 4) (aCons (eVar 5) aNil)))) aNil))))))) (gN 6))
  (sSeq (sExt 6 (eLstM (aCons (eErr "BadMethod" ["owner", "method"] (aCons (eVar 4) (aCons (eVar 5) aNil))) (aCons (eErr "BadDeed" ["deed"] (aCons (eVar 5) aNil)) aNil))))
  (sSeq (sExt 6 (eLstM (aCons (eErr "BadPlace" ["place"] (aCons (eVar 3) aNil)) (aCons (eErr "BadWorld" ["form"] (aCons (eVar 4) aNil)) (aCons (eErr "BadLabel" ["label"] (aCons (eVar 5) aNil)) (aCons (eErr "BadGoal" ["goal"] (aCons (eVar 3) aNil)) (aCons (eErr "BadWhen" ["when"] (aCons (eVar 4) aNil)) (aCons (eErr "BadMend" ["at"] (aCons (eVar 5) aNil)) (aCons (eErr "NoDoor" ["door"] (aCons (eVar 3) aNil)) (aCons (eErr "BadName" ["name"] (aCons (eVar 4) aNil)) aNil))))))))))
  (sSeq (sExt 6 (eLstM (aCons (eErr "UnlikeFaces" ["method"] (aCons (eVar 5) aNil)) (aCons (eErr0 "Busy") (aCons (eErr0 "NotAsked") (aCons (eErr "Shut" ["method"] (aCons (eVar 3) aNil)) aNil))))))
  (sFor (aEnumZ (aCons (eVar 6) aNil)) (gTupD 2 (gsCons (gN 7) (gsCons (gN 8) gsNil'))) (sSeq (sIf (tVal (e2 dNe (e2 dAdd (eCall 5 (aCons (eVar 8) aNil)) (eCall 6 (aCons (eVar 8) aNil))) (eLc (aRng1 (aCons (eC (.int 20)) aNil)) (gN 10) tYes' (e2 dEq (eVar 10) (eVar 7)) [10]))) (sRet (eC (.bl false))) sNil)
  (sSeq (sAsg (e2 dLt (eVar 7) (eC (.int 17))) (gN 9))
  (sSeq (sIf (tOr' (tVal (e2 dNe (eErrI TI_HandedcopiesError (eVar 8)) (eVar 9))) (tVal (e2 dNe (eErrI TI_ValueError (eVar 8)) (eVar 9)))) (sRet (eC (.bl false))) sNil)
  (sIf (tOr' (tVal (e2 dEq (eErrI TI_RuntimeError (eVar 8)) (eVar 9))) (tTruth (eErrI TI_LookupError (eVar 8)))) (sRet (eC (.bl false))) sNil))))))))))))
  (sRet (eAnd (eErrI TI_ValueError (eErr0 "HandedcopiesError")) (eNot (eErrI TI_BadLine (eErr0 "HandedcopiesError")))))))
def tbl : Tbl := fun q => [(sem__law_start, 5), (sem__law_draw, 7), (sem__law_of, 2), (sem__law_value, 5), (sem__law_fields_stand, 5), (sem__law_first, 1), (sem__law_second, 1), (sem_law, 11)][q]?
theorem lev__law_start (k : Nat) : lev tbl (k + 1) 0 = runBody sem__law_start 5 (lev tbl k) := rfl
theorem lev__law_draw (k : Nat) : lev tbl (k + 1) 1 = runBody sem__law_draw 7 (lev tbl k) := rfl
theorem lev__law_of (k : Nat) : lev tbl (k + 1) 2 = runBody sem__law_of 2 (lev tbl k) := rfl
theorem lev__law_value (k : Nat) : lev tbl (k + 1) 3 = runBody sem__law_value 5 (lev tbl k) := rfl
theorem lev__law_fields_stand (k : Nat) : lev tbl (k + 1) 4 = runBody sem__law_fields_stand 5 (lev tbl k) := rfl
theorem lev__law_first (k : Nat) : lev tbl (k + 1) 5 = runBody sem__law_first 1 (lev tbl k) := rfl
theorem lev__law_second (k : Nat) : lev tbl (k + 1) 6 = runBody sem__law_second 1 (lev tbl k) := rfl
theorem lev_law (k : Nat) : lev tbl (k + 1) 7 = runBody sem_law 11 (lev tbl k) := rfl
end K12
set_option pp.maxSteps 40
set_option maxRecDepth 100000
set_option maxHeartbeats 4000000
namespace K12
open PySem L2 MP
def top (i : Nat) : Stmt := PySem.Challenge.pw_handedcopies_k12_errors_made.main.body.getD i (.Pass ⟨0, 0, 0, 0⟩)
abbrev s__law_start : Stmt := top 23
abbrev N__law_start : List Str := ["_law_script", "_law_cells", "_law_great", "_law_small", "_law_cell"]
theorem sc__law_start : FnScope N__law_start ["_law_script"] (defScope s__law_start) := ⟨rfl, rfl, rfl, by decide +kernel, rfl, by decide +kernel, by decide +kernel⟩
abbrev s__law_draw : Stmt := top 24
abbrev N__law_draw : List Str := ["_law_state", "_law_many", "_law_great", "_law_small", "_law_taken", "_law_own", "_law_mixed"]
theorem sc__law_draw : FnScope N__law_draw ["_law_state", "_law_many"] (defScope s__law_draw) := ⟨rfl, rfl, rfl, by decide +kernel, rfl, by decide +kernel, by decide +kernel⟩
abbrev s__law_of : Stmt := top 25
abbrev N__law_of : List Str := ["_law_state", "_law_some"]
theorem sc__law_of : FnScope N__law_of ["_law_state", "_law_some"] (defScope s__law_of) := ⟨rfl, rfl, rfl, by decide +kernel, rfl, by decide +kernel, by decide +kernel⟩
abbrev s__law_value : Stmt := top 26
abbrev N__law_value : List Str := ["_law_state", "_law_number", "_law_text", "_law_some", "_law_turn"]
theorem sc__law_value : FnScope N__law_value ["_law_state"] (defScope s__law_value) := ⟨rfl, rfl, rfl, by decide +kernel, rfl, by decide +kernel, by decide +kernel⟩
abbrev s__law_fields_stand : Stmt := top 27
abbrev N__law_fields_stand : List Str := ["_law_a", "_law_b", "_law_c", "_law_row", "_law_method"]
theorem sc__law_fields_stand : FnScope N__law_fields_stand ["_law_a", "_law_b", "_law_c"] (defScope s__law_fields_stand) := ⟨rfl, rfl, rfl, by decide +kernel, rfl, by decide +kernel, by decide +kernel⟩
abbrev s__law_first : Stmt := top 28
abbrev N__law_first : List Str := ["_law_e"]
theorem sc__law_first : FnScope N__law_first ["_law_e"] (defScope s__law_first) := ⟨rfl, rfl, rfl, by decide +kernel, rfl, by decide +kernel, by decide +kernel⟩
abbrev s__law_second : Stmt := top 29
abbrev N__law_second : List Str := ["_law_e"]
theorem sc__law_second : FnScope N__law_second ["_law_e"] (defScope s__law_second) := ⟨rfl, rfl, rfl, by decide +kernel, rfl, by decide +kernel, by decide +kernel⟩
abbrev s_law : Stmt := top 30
abbrev N_law : List Str := ["_law_script", "_law_state", "_law_turn", "_law_a", "_law_b", "_law_c", "_law_made", "_law_at", "_law_e", "_law_is_own", "_law_place"]
theorem sc_law : FnScope N_law ["_law_script"] (defScope s_law) := ⟨rfl, rfl, rfl, by decide +kernel, rfl, by decide +kernel, by decide +kernel⟩
abbrev s_BadShape___init__ : Stmt := inClass (top 2) 0
theorem sc_BadShape___init__ : FnScope ["self", "text"] ["self", "text"] (defScope s_BadShape___init__) := ⟨rfl, rfl, rfl, by decide +kernel, rfl, by decide +kernel, by decide +kernel⟩
abbrev s_BadLine___init__ : Stmt := inClass (top 3) 0
theorem sc_BadLine___init__ : FnScope ["self", "at"] ["self", "at"] (defScope s_BadLine___init__) := ⟨rfl, rfl, rfl, by decide +kernel, rfl, by decide +kernel, by decide +kernel⟩
abbrev s_NoClass___init__ : Stmt := inClass (top 4) 0
theorem sc_NoClass___init__ : FnScope ["self", "name"] ["self", "name"] (defScope s_NoClass___init__) := ⟨rfl, rfl, rfl, by decide +kernel, rfl, by decide +kernel, by decide +kernel⟩
abbrev s_BadField___init__ : Stmt := inClass (top 5) 0
theorem sc_BadField___init__ : FnScope ["self", "name"] ["self", "name"] (defScope s_BadField___init__) := ⟨rfl, rfl, rfl, by decide +kernel, rfl, by decide +kernel, by decide +kernel⟩
abbrev s_TooMany___init__ : Stmt := inClass (top 6) 0
theorem sc_TooMany___init__ : FnScope ["self", "what"] ["self", "what"] (defScope s_TooMany___init__) := ⟨rfl, rfl, rfl, by decide +kernel, rfl, by decide +kernel, by decide +kernel⟩
abbrev s_BadRow___init__ : Stmt := inClass (top 7) 0
theorem sc_BadRow___init__ : FnScope ["self", "owner", "method", "at"] ["self", "owner", "method", "at"] (defScope s_BadRow___init__) := ⟨rfl, rfl, rfl, by decide +kernel, rfl, by decide +kernel, by decide +kernel⟩
abbrev s_BadMethod___init__ : Stmt := inClass (top 8) 0
theorem sc_BadMethod___init__ : FnScope ["self", "owner", "method"] ["self", "owner", "method"] (defScope s_BadMethod___init__) := ⟨rfl, rfl, rfl, by decide +kernel, rfl, by decide +kernel, by decide +kernel⟩
abbrev s_BadDeed___init__ : Stmt := inClass (top 9) 0
theorem sc_BadDeed___init__ : FnScope ["self", "deed"] ["self", "deed"] (defScope s_BadDeed___init__) := ⟨rfl, rfl, rfl, by decide +kernel, rfl, by decide +kernel, by decide +kernel⟩
abbrev s_BadPlace___init__ : Stmt := inClass (top 10) 0
theorem sc_BadPlace___init__ : FnScope ["self", "place"] ["self", "place"] (defScope s_BadPlace___init__) := ⟨rfl, rfl, rfl, by decide +kernel, rfl, by decide +kernel, by decide +kernel⟩
abbrev s_BadWorld___init__ : Stmt := inClass (top 11) 0
theorem sc_BadWorld___init__ : FnScope ["self", "form"] ["self", "form"] (defScope s_BadWorld___init__) := ⟨rfl, rfl, rfl, by decide +kernel, rfl, by decide +kernel, by decide +kernel⟩
abbrev s_BadLabel___init__ : Stmt := inClass (top 12) 0
theorem sc_BadLabel___init__ : FnScope ["self", "label"] ["self", "label"] (defScope s_BadLabel___init__) := ⟨rfl, rfl, rfl, by decide +kernel, rfl, by decide +kernel, by decide +kernel⟩
abbrev s_BadGoal___init__ : Stmt := inClass (top 13) 0
theorem sc_BadGoal___init__ : FnScope ["self", "goal"] ["self", "goal"] (defScope s_BadGoal___init__) := ⟨rfl, rfl, rfl, by decide +kernel, rfl, by decide +kernel, by decide +kernel⟩
abbrev s_BadWhen___init__ : Stmt := inClass (top 14) 0
theorem sc_BadWhen___init__ : FnScope ["self", "when"] ["self", "when"] (defScope s_BadWhen___init__) := ⟨rfl, rfl, rfl, by decide +kernel, rfl, by decide +kernel, by decide +kernel⟩
abbrev s_BadMend___init__ : Stmt := inClass (top 15) 0
theorem sc_BadMend___init__ : FnScope ["self", "at"] ["self", "at"] (defScope s_BadMend___init__) := ⟨rfl, rfl, rfl, by decide +kernel, rfl, by decide +kernel, by decide +kernel⟩
abbrev s_NoDoor___init__ : Stmt := inClass (top 16) 0
theorem sc_NoDoor___init__ : FnScope ["self", "door"] ["self", "door"] (defScope s_NoDoor___init__) := ⟨rfl, rfl, rfl, by decide +kernel, rfl, by decide +kernel, by decide +kernel⟩
abbrev s_BadName___init__ : Stmt := inClass (top 17) 0
theorem sc_BadName___init__ : FnScope ["self", "name"] ["self", "name"] (defScope s_BadName___init__) := ⟨rfl, rfl, rfl, by decide +kernel, rfl, by decide +kernel, by decide +kernel⟩
abbrev s_UnlikeFaces___init__ : Stmt := inClass (top 18) 0
theorem sc_UnlikeFaces___init__ : FnScope ["self", "method"] ["self", "method"] (defScope s_UnlikeFaces___init__) := ⟨rfl, rfl, rfl, by decide +kernel, rfl, by decide +kernel, by decide +kernel⟩
abbrev s_Shut___init__ : Stmt := inClass (top 21) 0
theorem sc_Shut___init__ : FnScope ["self", "method"] ["self", "method"] (defScope s_Shut___init__) := ⟨rfl, rfl, rfl, by decide +kernel, rfl, by decide +kernel, by decide +kernel⟩
structure Adr where
  a__law_start : Addr
  a__law_draw : Addr
  a__law_of : Addr
  a__law_value : Addr
  a__law_fields_stand : Addr
  a__law_first : Addr
  a__law_second : Addr
  a_law : Addr
  a_BadShape___init__ : Addr
  a_BadLine___init__ : Addr
  a_NoClass___init__ : Addr
  a_BadField___init__ : Addr
  a_TooMany___init__ : Addr
  a_BadRow___init__ : Addr
  a_BadMethod___init__ : Addr
  a_BadDeed___init__ : Addr
  a_BadPlace___init__ : Addr
  a_BadWorld___init__ : Addr
  a_BadLabel___init__ : Addr
  a_BadGoal___init__ : Addr
  a_BadWhen___init__ : Addr
  a_BadMend___init__ : Addr
  a_NoDoor___init__ : Addr
  a_BadName___init__ : Addr
  a_UnlikeFaces___init__ : Addr
  a_Shut___init__ : Addr
  c_BadDeed : Addr
  c_BadField : Addr
  c_BadGoal : Addr
  c_BadLabel : Addr
  c_BadLine : Addr
  c_BadMend : Addr
  c_BadMethod : Addr
  c_BadName : Addr
  c_BadPlace : Addr
  c_BadRow : Addr
  c_BadShape : Addr
  c_BadWhen : Addr
  c_BadWorld : Addr
  c_Busy : Addr
  c_HandedcopiesError : Addr
  c_NoClass : Addr
  c_NoDoor : Addr
  c_NotAsked : Addr
  c_Shut : Addr
  c_TooMany : Addr
  c_UnlikeFaces : Addr
structure Txt (K : PySem.W.Frag) (mg : Str → Option Value) (A : Adr) : Prop where
  u__law_start : FunB K "_law_start" "_law_start" s__law_start A.a__law_start ["_law_script"]
  m__law_start : mg "_law_start" = some (.ref A.a__law_start)
  u__law_draw : FunB K "_law_draw" "_law_draw" s__law_draw A.a__law_draw ["_law_state", "_law_many"]
  m__law_draw : mg "_law_draw" = some (.ref A.a__law_draw)
  u__law_of : FunB K "_law_of" "_law_of" s__law_of A.a__law_of ["_law_state", "_law_some"]
  m__law_of : mg "_law_of" = some (.ref A.a__law_of)
  u__law_value : FunB K "_law_value" "_law_value" s__law_value A.a__law_value ["_law_state"]
  m__law_value : mg "_law_value" = some (.ref A.a__law_value)
  u__law_fields_stand : FunB K "_law_fields_stand" "_law_fields_stand" s__law_fields_stand A.a__law_fields_stand ["_law_a", "_law_b", "_law_c"]
  m__law_fields_stand : mg "_law_fields_stand" = some (.ref A.a__law_fields_stand)
  u__law_first : FunB K "_law_first" "_law_first" s__law_first A.a__law_first ["_law_e"]
  m__law_first : mg "_law_first" = some (.ref A.a__law_first)
  u__law_second : FunB K "_law_second" "_law_second" s__law_second A.a__law_second ["_law_e"]
  m__law_second : mg "_law_second" = some (.ref A.a__law_second)
  u_law : FunB K "law" "law" s_law A.a_law ["_law_script"]
  m_law : mg "law" = some (.ref A.a_law)
  b_LookupError : mg "LookupError" = none
  b_RuntimeError : mg "RuntimeError" = none
  b_ValueError : mg "ValueError" = none
  b_abs : mg "abs" = none
  b_enumerate : mg "enumerate" = none
  b_int : mg "int" = none
  b_isinstance : mg "isinstance" = none
  b_len : mg "len" = none
  b_list : mg "list" = none
  b_range : mg "range" = none
  c_BadDeed : mg "BadDeed" = some (.ref A.c_BadDeed)
  c_BadField : mg "BadField" = some (.ref A.c_BadField)
  c_BadGoal : mg "BadGoal" = some (.ref A.c_BadGoal)
  c_BadLabel : mg "BadLabel" = some (.ref A.c_BadLabel)
  c_BadLine : mg "BadLine" = some (.ref A.c_BadLine)
  c_BadMend : mg "BadMend" = some (.ref A.c_BadMend)
  c_BadMethod : mg "BadMethod" = some (.ref A.c_BadMethod)
  c_BadName : mg "BadName" = some (.ref A.c_BadName)
  c_BadPlace : mg "BadPlace" = some (.ref A.c_BadPlace)
  c_BadRow : mg "BadRow" = some (.ref A.c_BadRow)
  c_BadShape : mg "BadShape" = some (.ref A.c_BadShape)
  c_BadWhen : mg "BadWhen" = some (.ref A.c_BadWhen)
  c_BadWorld : mg "BadWorld" = some (.ref A.c_BadWorld)
  c_Busy : mg "Busy" = some (.ref A.c_Busy)
  c_HandedcopiesError : mg "HandedcopiesError" = some (.ref A.c_HandedcopiesError)
  c_NoClass : mg "NoClass" = some (.ref A.c_NoClass)
  c_NoDoor : mg "NoDoor" = some (.ref A.c_NoDoor)
  c_NotAsked : mg "NotAsked" = some (.ref A.c_NotAsked)
  c_Shut : mg "Shut" = some (.ref A.c_Shut)
  c_TooMany : mg "TooMany" = some (.ref A.c_TooMany)
  c_UnlikeFaces : mg "UnlikeFaces" = some (.ref A.c_UnlikeFaces)
  xb_HandedcopiesError : XBase K mg "HandedcopiesError"
  ux_BadShape : FunB K "__init__" "BadShape.__init__" s_BadShape___init__ A.a_BadShape___init__ ["self", "text"]
  ox_BadShape : OexC K A.c_BadShape
  xq_BadShape : XfC K A.c_BadShape ∧ XFree K A.c_BadShape ["text"]
  ix_BadShape : PySem.W.findIn K (.ref A.c_BadShape) "__init__" = some (some (.ref A.a_BadShape___init__))
  tx_BadShape : PySem.W.typeIn K (.ref A.a_BadShape___init__) = some (.type "function")
  ux_BadLine : FunB K "__init__" "BadLine.__init__" s_BadLine___init__ A.a_BadLine___init__ ["self", "at"]
  ox_BadLine : OexC K A.c_BadLine
  xq_BadLine : XfC K A.c_BadLine ∧ XFree K A.c_BadLine ["at"]
  ix_BadLine : PySem.W.findIn K (.ref A.c_BadLine) "__init__" = some (some (.ref A.a_BadLine___init__))
  tx_BadLine : PySem.W.typeIn K (.ref A.a_BadLine___init__) = some (.type "function")
  ux_NoClass : FunB K "__init__" "NoClass.__init__" s_NoClass___init__ A.a_NoClass___init__ ["self", "name"]
  ox_NoClass : OexC K A.c_NoClass
  xq_NoClass : XfC K A.c_NoClass ∧ XFree K A.c_NoClass ["name"]
  ix_NoClass : PySem.W.findIn K (.ref A.c_NoClass) "__init__" = some (some (.ref A.a_NoClass___init__))
  tx_NoClass : PySem.W.typeIn K (.ref A.a_NoClass___init__) = some (.type "function")
  ux_BadField : FunB K "__init__" "BadField.__init__" s_BadField___init__ A.a_BadField___init__ ["self", "name"]
  ox_BadField : OexC K A.c_BadField
  xq_BadField : XfC K A.c_BadField ∧ XFree K A.c_BadField ["name"]
  ix_BadField : PySem.W.findIn K (.ref A.c_BadField) "__init__" = some (some (.ref A.a_BadField___init__))
  tx_BadField : PySem.W.typeIn K (.ref A.a_BadField___init__) = some (.type "function")
  ux_TooMany : FunB K "__init__" "TooMany.__init__" s_TooMany___init__ A.a_TooMany___init__ ["self", "what"]
  ox_TooMany : OexC K A.c_TooMany
  xq_TooMany : XfC K A.c_TooMany ∧ XFree K A.c_TooMany ["what"]
  ix_TooMany : PySem.W.findIn K (.ref A.c_TooMany) "__init__" = some (some (.ref A.a_TooMany___init__))
  tx_TooMany : PySem.W.typeIn K (.ref A.a_TooMany___init__) = some (.type "function")
  ux_BadRow : FunB K "__init__" "BadRow.__init__" s_BadRow___init__ A.a_BadRow___init__ ["self", "owner", "method", "at"]
  ox_BadRow : OexC K A.c_BadRow
  xq_BadRow : XfC K A.c_BadRow ∧ XFree K A.c_BadRow ["owner", "method", "at"]
  ix_BadRow : PySem.W.findIn K (.ref A.c_BadRow) "__init__" = some (some (.ref A.a_BadRow___init__))
  tx_BadRow : PySem.W.typeIn K (.ref A.a_BadRow___init__) = some (.type "function")
  ux_BadMethod : FunB K "__init__" "BadMethod.__init__" s_BadMethod___init__ A.a_BadMethod___init__ ["self", "owner", "method"]
  ox_BadMethod : OexC K A.c_BadMethod
  xq_BadMethod : XfC K A.c_BadMethod ∧ XFree K A.c_BadMethod ["owner", "method"]
  ix_BadMethod : PySem.W.findIn K (.ref A.c_BadMethod) "__init__" = some (some (.ref A.a_BadMethod___init__))
  tx_BadMethod : PySem.W.typeIn K (.ref A.a_BadMethod___init__) = some (.type "function")
  ux_BadDeed : FunB K "__init__" "BadDeed.__init__" s_BadDeed___init__ A.a_BadDeed___init__ ["self", "deed"]
  ox_BadDeed : OexC K A.c_BadDeed
  xq_BadDeed : XfC K A.c_BadDeed ∧ XFree K A.c_BadDeed ["deed"]
  ix_BadDeed : PySem.W.findIn K (.ref A.c_BadDeed) "__init__" = some (some (.ref A.a_BadDeed___init__))
  tx_BadDeed : PySem.W.typeIn K (.ref A.a_BadDeed___init__) = some (.type "function")
  ux_BadPlace : FunB K "__init__" "BadPlace.__init__" s_BadPlace___init__ A.a_BadPlace___init__ ["self", "place"]
  ox_BadPlace : OexC K A.c_BadPlace
  xq_BadPlace : XfC K A.c_BadPlace ∧ XFree K A.c_BadPlace ["place"]
  ix_BadPlace : PySem.W.findIn K (.ref A.c_BadPlace) "__init__" = some (some (.ref A.a_BadPlace___init__))
  tx_BadPlace : PySem.W.typeIn K (.ref A.a_BadPlace___init__) = some (.type "function")
  ux_BadWorld : FunB K "__init__" "BadWorld.__init__" s_BadWorld___init__ A.a_BadWorld___init__ ["self", "form"]
  ox_BadWorld : OexC K A.c_BadWorld
  xq_BadWorld : XfC K A.c_BadWorld ∧ XFree K A.c_BadWorld ["form"]
  ix_BadWorld : PySem.W.findIn K (.ref A.c_BadWorld) "__init__" = some (some (.ref A.a_BadWorld___init__))
  tx_BadWorld : PySem.W.typeIn K (.ref A.a_BadWorld___init__) = some (.type "function")
  ux_BadLabel : FunB K "__init__" "BadLabel.__init__" s_BadLabel___init__ A.a_BadLabel___init__ ["self", "label"]
  ox_BadLabel : OexC K A.c_BadLabel
  xq_BadLabel : XfC K A.c_BadLabel ∧ XFree K A.c_BadLabel ["label"]
  ix_BadLabel : PySem.W.findIn K (.ref A.c_BadLabel) "__init__" = some (some (.ref A.a_BadLabel___init__))
  tx_BadLabel : PySem.W.typeIn K (.ref A.a_BadLabel___init__) = some (.type "function")
  ux_BadGoal : FunB K "__init__" "BadGoal.__init__" s_BadGoal___init__ A.a_BadGoal___init__ ["self", "goal"]
  ox_BadGoal : OexC K A.c_BadGoal
  xq_BadGoal : XfC K A.c_BadGoal ∧ XFree K A.c_BadGoal ["goal"]
  ix_BadGoal : PySem.W.findIn K (.ref A.c_BadGoal) "__init__" = some (some (.ref A.a_BadGoal___init__))
  tx_BadGoal : PySem.W.typeIn K (.ref A.a_BadGoal___init__) = some (.type "function")
  ux_BadWhen : FunB K "__init__" "BadWhen.__init__" s_BadWhen___init__ A.a_BadWhen___init__ ["self", "when"]
  ox_BadWhen : OexC K A.c_BadWhen
  xq_BadWhen : XfC K A.c_BadWhen ∧ XFree K A.c_BadWhen ["when"]
  ix_BadWhen : PySem.W.findIn K (.ref A.c_BadWhen) "__init__" = some (some (.ref A.a_BadWhen___init__))
  tx_BadWhen : PySem.W.typeIn K (.ref A.a_BadWhen___init__) = some (.type "function")
  ux_BadMend : FunB K "__init__" "BadMend.__init__" s_BadMend___init__ A.a_BadMend___init__ ["self", "at"]
  ox_BadMend : OexC K A.c_BadMend
  xq_BadMend : XfC K A.c_BadMend ∧ XFree K A.c_BadMend ["at"]
  ix_BadMend : PySem.W.findIn K (.ref A.c_BadMend) "__init__" = some (some (.ref A.a_BadMend___init__))
  tx_BadMend : PySem.W.typeIn K (.ref A.a_BadMend___init__) = some (.type "function")
  ux_NoDoor : FunB K "__init__" "NoDoor.__init__" s_NoDoor___init__ A.a_NoDoor___init__ ["self", "door"]
  ox_NoDoor : OexC K A.c_NoDoor
  xq_NoDoor : XfC K A.c_NoDoor ∧ XFree K A.c_NoDoor ["door"]
  ix_NoDoor : PySem.W.findIn K (.ref A.c_NoDoor) "__init__" = some (some (.ref A.a_NoDoor___init__))
  tx_NoDoor : PySem.W.typeIn K (.ref A.a_NoDoor___init__) = some (.type "function")
  ux_BadName : FunB K "__init__" "BadName.__init__" s_BadName___init__ A.a_BadName___init__ ["self", "name"]
  ox_BadName : OexC K A.c_BadName
  xq_BadName : XfC K A.c_BadName ∧ XFree K A.c_BadName ["name"]
  ix_BadName : PySem.W.findIn K (.ref A.c_BadName) "__init__" = some (some (.ref A.a_BadName___init__))
  tx_BadName : PySem.W.typeIn K (.ref A.a_BadName___init__) = some (.type "function")
  ux_UnlikeFaces : FunB K "__init__" "UnlikeFaces.__init__" s_UnlikeFaces___init__ A.a_UnlikeFaces___init__ ["self", "method"]
  ox_UnlikeFaces : OexC K A.c_UnlikeFaces
  xq_UnlikeFaces : XfC K A.c_UnlikeFaces ∧ XFree K A.c_UnlikeFaces ["method"]
  ix_UnlikeFaces : PySem.W.findIn K (.ref A.c_UnlikeFaces) "__init__" = some (some (.ref A.a_UnlikeFaces___init__))
  tx_UnlikeFaces : PySem.W.typeIn K (.ref A.a_UnlikeFaces___init__) = some (.type "function")
  ux_Shut : FunB K "__init__" "Shut.__init__" s_Shut___init__ A.a_Shut___init__ ["self", "method"]
  or_Shut : OexR K A.c_Shut "method"
  ok_Shut : PySem.W.keepIn K (.ref A.c_Shut) = true
  xq_Shut : XfC K A.c_Shut ∧ XFree K A.c_Shut ["method"]
  ix_Shut : PySem.W.findIn K (.ref A.c_Shut) "__init__" = some (some (.ref A.a_Shut___init__))
  tx_Shut : PySem.W.typeIn K (.ref A.a_Shut___init__) = some (.type "function")
  re0 : PySem.W.findCls K (.type "RuntimeError") (.type "type") "__init__" = some (.val (.builtin "RuntimeError.__init__"))
  pl_Busy : XPl K mg "Busy"
  pl_HandedcopiesError : XPl K mg "HandedcopiesError"
  pl_NotAsked : XPl K mg "NotAsked"
  xi_BadShape : XIs K A.c_BadShape
  xi_BadLine : XIs K A.c_BadLine
  xi_NoClass : XIs K A.c_NoClass
  xi_BadField : XIs K A.c_BadField
  xi_TooMany : XIs K A.c_TooMany
  xi_BadRow : XIs K A.c_BadRow
  xi_BadMethod : XIs K A.c_BadMethod
  xi_BadDeed : XIs K A.c_BadDeed
  xi_BadPlace : XIs K A.c_BadPlace
  xi_BadWorld : XIs K A.c_BadWorld
  xi_BadLabel : XIs K A.c_BadLabel
  xi_BadGoal : XIs K A.c_BadGoal
  xi_BadWhen : XIs K A.c_BadWhen
  xi_BadMend : XIs K A.c_BadMend
  xi_NoDoor : XIs K A.c_NoDoor
  xi_BadName : XIs K A.c_BadName
  xi_UnlikeFaces : XIs K A.c_UnlikeFaces
  xi_Busy : XIs K A.c_Busy
  xi_NotAsked : XIs K A.c_NotAsked
  xi_Shut : XIs K A.c_Shut
  xi_HandedcopiesError : XIs K A.c_HandedcopiesError
  kx_BadDeed : kitsB K (.ref A.c_BadDeed) [(A.c_BadShape, false), (A.c_BadLine, false), (A.c_NoClass, false), (A.c_BadField, false), (A.c_TooMany, false), (A.c_BadRow, false), (A.c_BadMethod, false), (A.c_BadDeed, true), (A.c_BadPlace, false), (A.c_BadWorld, false), (A.c_BadLabel, false), (A.c_BadGoal, false), (A.c_BadWhen, false), (A.c_BadMend, false), (A.c_NoDoor, false), (A.c_BadName, false), (A.c_UnlikeFaces, false), (A.c_Busy, false), (A.c_NotAsked, false), (A.c_Shut, false), (A.c_HandedcopiesError, false)] = true
  kx_BadField : kitsB K (.ref A.c_BadField) [(A.c_BadShape, false), (A.c_BadLine, false), (A.c_NoClass, false), (A.c_BadField, true), (A.c_TooMany, false), (A.c_BadRow, false), (A.c_BadMethod, false), (A.c_BadDeed, false), (A.c_BadPlace, false), (A.c_BadWorld, false), (A.c_BadLabel, false), (A.c_BadGoal, false), (A.c_BadWhen, false), (A.c_BadMend, false), (A.c_NoDoor, false), (A.c_BadName, false), (A.c_UnlikeFaces, false), (A.c_Busy, false), (A.c_NotAsked, false), (A.c_Shut, false), (A.c_HandedcopiesError, false)] = true
  kx_BadGoal : kitsB K (.ref A.c_BadGoal) [(A.c_BadShape, false), (A.c_BadLine, false), (A.c_NoClass, false), (A.c_BadField, false), (A.c_TooMany, false), (A.c_BadRow, false), (A.c_BadMethod, false), (A.c_BadDeed, false), (A.c_BadPlace, false), (A.c_BadWorld, false), (A.c_BadLabel, false), (A.c_BadGoal, true), (A.c_BadWhen, false), (A.c_BadMend, false), (A.c_NoDoor, false), (A.c_BadName, false), (A.c_UnlikeFaces, false), (A.c_Busy, false), (A.c_NotAsked, false), (A.c_Shut, false), (A.c_HandedcopiesError, false)] = true
  kx_BadLabel : kitsB K (.ref A.c_BadLabel) [(A.c_BadShape, false), (A.c_BadLine, false), (A.c_NoClass, false), (A.c_BadField, false), (A.c_TooMany, false), (A.c_BadRow, false), (A.c_BadMethod, false), (A.c_BadDeed, false), (A.c_BadPlace, false), (A.c_BadWorld, false), (A.c_BadLabel, true), (A.c_BadGoal, false), (A.c_BadWhen, false), (A.c_BadMend, false), (A.c_NoDoor, false), (A.c_BadName, false), (A.c_UnlikeFaces, false), (A.c_Busy, false), (A.c_NotAsked, false), (A.c_Shut, false), (A.c_HandedcopiesError, false)] = true
  kx_BadLine : kitsB K (.ref A.c_BadLine) [(A.c_BadShape, false), (A.c_BadLine, true), (A.c_NoClass, false), (A.c_BadField, false), (A.c_TooMany, false), (A.c_BadRow, false), (A.c_BadMethod, false), (A.c_BadDeed, false), (A.c_BadPlace, false), (A.c_BadWorld, false), (A.c_BadLabel, false), (A.c_BadGoal, false), (A.c_BadWhen, false), (A.c_BadMend, false), (A.c_NoDoor, false), (A.c_BadName, false), (A.c_UnlikeFaces, false), (A.c_Busy, false), (A.c_NotAsked, false), (A.c_Shut, false), (A.c_HandedcopiesError, false)] = true
  kx_BadMend : kitsB K (.ref A.c_BadMend) [(A.c_BadShape, false), (A.c_BadLine, false), (A.c_NoClass, false), (A.c_BadField, false), (A.c_TooMany, false), (A.c_BadRow, false), (A.c_BadMethod, false), (A.c_BadDeed, false), (A.c_BadPlace, false), (A.c_BadWorld, false), (A.c_BadLabel, false), (A.c_BadGoal, false), (A.c_BadWhen, false), (A.c_BadMend, true), (A.c_NoDoor, false), (A.c_BadName, false), (A.c_UnlikeFaces, false), (A.c_Busy, false), (A.c_NotAsked, false), (A.c_Shut, false), (A.c_HandedcopiesError, false)] = true
  kx_BadMethod : kitsB K (.ref A.c_BadMethod) [(A.c_BadShape, false), (A.c_BadLine, false), (A.c_NoClass, false), (A.c_BadField, false), (A.c_TooMany, false), (A.c_BadRow, false), (A.c_BadMethod, true), (A.c_BadDeed, false), (A.c_BadPlace, false), (A.c_BadWorld, false), (A.c_BadLabel, false), (A.c_BadGoal, false), (A.c_BadWhen, false), (A.c_BadMend, false), (A.c_NoDoor, false), (A.c_BadName, false), (A.c_UnlikeFaces, false), (A.c_Busy, false), (A.c_NotAsked, false), (A.c_Shut, false), (A.c_HandedcopiesError, false)] = true
  kx_BadName : kitsB K (.ref A.c_BadName) [(A.c_BadShape, false), (A.c_BadLine, false), (A.c_NoClass, false), (A.c_BadField, false), (A.c_TooMany, false), (A.c_BadRow, false), (A.c_BadMethod, false), (A.c_BadDeed, false), (A.c_BadPlace, false), (A.c_BadWorld, false), (A.c_BadLabel, false), (A.c_BadGoal, false), (A.c_BadWhen, false), (A.c_BadMend, false), (A.c_NoDoor, false), (A.c_BadName, true), (A.c_UnlikeFaces, false), (A.c_Busy, false), (A.c_NotAsked, false), (A.c_Shut, false), (A.c_HandedcopiesError, false)] = true
  kx_BadPlace : kitsB K (.ref A.c_BadPlace) [(A.c_BadShape, false), (A.c_BadLine, false), (A.c_NoClass, false), (A.c_BadField, false), (A.c_TooMany, false), (A.c_BadRow, false), (A.c_BadMethod, false), (A.c_BadDeed, false), (A.c_BadPlace, true), (A.c_BadWorld, false), (A.c_BadLabel, false), (A.c_BadGoal, false), (A.c_BadWhen, false), (A.c_BadMend, false), (A.c_NoDoor, false), (A.c_BadName, false), (A.c_UnlikeFaces, false), (A.c_Busy, false), (A.c_NotAsked, false), (A.c_Shut, false), (A.c_HandedcopiesError, false)] = true
  kx_BadRow : kitsB K (.ref A.c_BadRow) [(A.c_BadShape, false), (A.c_BadLine, false), (A.c_NoClass, false), (A.c_BadField, false), (A.c_TooMany, false), (A.c_BadRow, true), (A.c_BadMethod, false), (A.c_BadDeed, false), (A.c_BadPlace, false), (A.c_BadWorld, false), (A.c_BadLabel, false), (A.c_BadGoal, false), (A.c_BadWhen, false), (A.c_BadMend, false), (A.c_NoDoor, false), (A.c_BadName, false), (A.c_UnlikeFaces, false), (A.c_Busy, false), (A.c_NotAsked, false), (A.c_Shut, false), (A.c_HandedcopiesError, false)] = true
  kx_BadShape : kitsB K (.ref A.c_BadShape) [(A.c_BadShape, true), (A.c_BadLine, false), (A.c_NoClass, false), (A.c_BadField, false), (A.c_TooMany, false), (A.c_BadRow, false), (A.c_BadMethod, false), (A.c_BadDeed, false), (A.c_BadPlace, false), (A.c_BadWorld, false), (A.c_BadLabel, false), (A.c_BadGoal, false), (A.c_BadWhen, false), (A.c_BadMend, false), (A.c_NoDoor, false), (A.c_BadName, false), (A.c_UnlikeFaces, false), (A.c_Busy, false), (A.c_NotAsked, false), (A.c_Shut, false), (A.c_HandedcopiesError, false)] = true
  kx_BadWhen : kitsB K (.ref A.c_BadWhen) [(A.c_BadShape, false), (A.c_BadLine, false), (A.c_NoClass, false), (A.c_BadField, false), (A.c_TooMany, false), (A.c_BadRow, false), (A.c_BadMethod, false), (A.c_BadDeed, false), (A.c_BadPlace, false), (A.c_BadWorld, false), (A.c_BadLabel, false), (A.c_BadGoal, false), (A.c_BadWhen, true), (A.c_BadMend, false), (A.c_NoDoor, false), (A.c_BadName, false), (A.c_UnlikeFaces, false), (A.c_Busy, false), (A.c_NotAsked, false), (A.c_Shut, false), (A.c_HandedcopiesError, false)] = true
  kx_BadWorld : kitsB K (.ref A.c_BadWorld) [(A.c_BadShape, false), (A.c_BadLine, false), (A.c_NoClass, false), (A.c_BadField, false), (A.c_TooMany, false), (A.c_BadRow, false), (A.c_BadMethod, false), (A.c_BadDeed, false), (A.c_BadPlace, false), (A.c_BadWorld, true), (A.c_BadLabel, false), (A.c_BadGoal, false), (A.c_BadWhen, false), (A.c_BadMend, false), (A.c_NoDoor, false), (A.c_BadName, false), (A.c_UnlikeFaces, false), (A.c_Busy, false), (A.c_NotAsked, false), (A.c_Shut, false), (A.c_HandedcopiesError, false)] = true
  kx_Busy : kitsB K (.ref A.c_Busy) [(A.c_BadShape, false), (A.c_BadLine, false), (A.c_NoClass, false), (A.c_BadField, false), (A.c_TooMany, false), (A.c_BadRow, false), (A.c_BadMethod, false), (A.c_BadDeed, false), (A.c_BadPlace, false), (A.c_BadWorld, false), (A.c_BadLabel, false), (A.c_BadGoal, false), (A.c_BadWhen, false), (A.c_BadMend, false), (A.c_NoDoor, false), (A.c_BadName, false), (A.c_UnlikeFaces, false), (A.c_Busy, true), (A.c_NotAsked, false), (A.c_Shut, false), (A.c_HandedcopiesError, false)] = true
  kx_HandedcopiesError : kitsB K (.ref A.c_HandedcopiesError) [(A.c_BadShape, true), (A.c_BadLine, true), (A.c_NoClass, true), (A.c_BadField, true), (A.c_TooMany, true), (A.c_BadRow, true), (A.c_BadMethod, true), (A.c_BadDeed, true), (A.c_BadPlace, true), (A.c_BadWorld, true), (A.c_BadLabel, true), (A.c_BadGoal, true), (A.c_BadWhen, true), (A.c_BadMend, true), (A.c_NoDoor, true), (A.c_BadName, true), (A.c_UnlikeFaces, true), (A.c_Busy, false), (A.c_NotAsked, false), (A.c_Shut, false), (A.c_HandedcopiesError, true)] = true
  kx_LookupError : kitsB K (.type "LookupError") [(A.c_BadShape, false), (A.c_BadLine, false), (A.c_NoClass, false), (A.c_BadField, false), (A.c_TooMany, false), (A.c_BadRow, false), (A.c_BadMethod, false), (A.c_BadDeed, false), (A.c_BadPlace, false), (A.c_BadWorld, false), (A.c_BadLabel, false), (A.c_BadGoal, false), (A.c_BadWhen, false), (A.c_BadMend, false), (A.c_NoDoor, false), (A.c_BadName, false), (A.c_UnlikeFaces, false), (A.c_Busy, false), (A.c_NotAsked, false), (A.c_Shut, false), (A.c_HandedcopiesError, false)] = true
  kx_NoClass : kitsB K (.ref A.c_NoClass) [(A.c_BadShape, false), (A.c_BadLine, false), (A.c_NoClass, true), (A.c_BadField, false), (A.c_TooMany, false), (A.c_BadRow, false), (A.c_BadMethod, false), (A.c_BadDeed, false), (A.c_BadPlace, false), (A.c_BadWorld, false), (A.c_BadLabel, false), (A.c_BadGoal, false), (A.c_BadWhen, false), (A.c_BadMend, false), (A.c_NoDoor, false), (A.c_BadName, false), (A.c_UnlikeFaces, false), (A.c_Busy, false), (A.c_NotAsked, false), (A.c_Shut, false), (A.c_HandedcopiesError, false)] = true
  kx_NoDoor : kitsB K (.ref A.c_NoDoor) [(A.c_BadShape, false), (A.c_BadLine, false), (A.c_NoClass, false), (A.c_BadField, false), (A.c_TooMany, false), (A.c_BadRow, false), (A.c_BadMethod, false), (A.c_BadDeed, false), (A.c_BadPlace, false), (A.c_BadWorld, false), (A.c_BadLabel, false), (A.c_BadGoal, false), (A.c_BadWhen, false), (A.c_BadMend, false), (A.c_NoDoor, true), (A.c_BadName, false), (A.c_UnlikeFaces, false), (A.c_Busy, false), (A.c_NotAsked, false), (A.c_Shut, false), (A.c_HandedcopiesError, false)] = true
  kx_NotAsked : kitsB K (.ref A.c_NotAsked) [(A.c_BadShape, false), (A.c_BadLine, false), (A.c_NoClass, false), (A.c_BadField, false), (A.c_TooMany, false), (A.c_BadRow, false), (A.c_BadMethod, false), (A.c_BadDeed, false), (A.c_BadPlace, false), (A.c_BadWorld, false), (A.c_BadLabel, false), (A.c_BadGoal, false), (A.c_BadWhen, false), (A.c_BadMend, false), (A.c_NoDoor, false), (A.c_BadName, false), (A.c_UnlikeFaces, false), (A.c_Busy, false), (A.c_NotAsked, true), (A.c_Shut, false), (A.c_HandedcopiesError, false)] = true
  kx_RuntimeError : kitsB K (.type "RuntimeError") [(A.c_BadShape, false), (A.c_BadLine, false), (A.c_NoClass, false), (A.c_BadField, false), (A.c_TooMany, false), (A.c_BadRow, false), (A.c_BadMethod, false), (A.c_BadDeed, false), (A.c_BadPlace, false), (A.c_BadWorld, false), (A.c_BadLabel, false), (A.c_BadGoal, false), (A.c_BadWhen, false), (A.c_BadMend, false), (A.c_NoDoor, false), (A.c_BadName, false), (A.c_UnlikeFaces, false), (A.c_Busy, true), (A.c_NotAsked, true), (A.c_Shut, true), (A.c_HandedcopiesError, false)] = true
  kx_Shut : kitsB K (.ref A.c_Shut) [(A.c_BadShape, false), (A.c_BadLine, false), (A.c_NoClass, false), (A.c_BadField, false), (A.c_TooMany, false), (A.c_BadRow, false), (A.c_BadMethod, false), (A.c_BadDeed, false), (A.c_BadPlace, false), (A.c_BadWorld, false), (A.c_BadLabel, false), (A.c_BadGoal, false), (A.c_BadWhen, false), (A.c_BadMend, false), (A.c_NoDoor, false), (A.c_BadName, false), (A.c_UnlikeFaces, false), (A.c_Busy, false), (A.c_NotAsked, false), (A.c_Shut, true), (A.c_HandedcopiesError, false)] = true
  kx_TooMany : kitsB K (.ref A.c_TooMany) [(A.c_BadShape, false), (A.c_BadLine, false), (A.c_NoClass, false), (A.c_BadField, false), (A.c_TooMany, true), (A.c_BadRow, false), (A.c_BadMethod, false), (A.c_BadDeed, false), (A.c_BadPlace, false), (A.c_BadWorld, false), (A.c_BadLabel, false), (A.c_BadGoal, false), (A.c_BadWhen, false), (A.c_BadMend, false), (A.c_NoDoor, false), (A.c_BadName, false), (A.c_UnlikeFaces, false), (A.c_Busy, false), (A.c_NotAsked, false), (A.c_Shut, false), (A.c_HandedcopiesError, false)] = true
  kx_UnlikeFaces : kitsB K (.ref A.c_UnlikeFaces) [(A.c_BadShape, false), (A.c_BadLine, false), (A.c_NoClass, false), (A.c_BadField, false), (A.c_TooMany, false), (A.c_BadRow, false), (A.c_BadMethod, false), (A.c_BadDeed, false), (A.c_BadPlace, false), (A.c_BadWorld, false), (A.c_BadLabel, false), (A.c_BadGoal, false), (A.c_BadWhen, false), (A.c_BadMend, false), (A.c_NoDoor, false), (A.c_BadName, false), (A.c_UnlikeFaces, true), (A.c_Busy, false), (A.c_NotAsked, false), (A.c_Shut, false), (A.c_HandedcopiesError, false)] = true
  kx_ValueError : kitsB K (.type "ValueError") [(A.c_BadShape, true), (A.c_BadLine, true), (A.c_NoClass, true), (A.c_BadField, true), (A.c_TooMany, true), (A.c_BadRow, true), (A.c_BadMethod, true), (A.c_BadDeed, true), (A.c_BadPlace, true), (A.c_BadWorld, true), (A.c_BadLabel, true), (A.c_BadGoal, true), (A.c_BadWhen, true), (A.c_BadMend, true), (A.c_NoDoor, true), (A.c_BadName, true), (A.c_UnlikeFaces, true), (A.c_Busy, false), (A.c_NotAsked, false), (A.c_Shut, false), (A.c_HandedcopiesError, true)] = true
  u0 : ∃ fd : FuncData, Fun K "law" "law" s_law A.a_law fd ∧ ∀ (s : Shared) (u : Value), BindsTo s fd ⟨[u], []⟩ [("_law_script", u)]
structure Fns (P : Program) (w : World) (K : PySem.W.Frag) (mg : Str → Option Value) (base : Heap) (A : Adr) (k : Nat) (Γ : Calls) : Prop where
  f__law_start : Fn P w K mg base k A.a__law_start 1 (Γ 0)
  f__law_draw : Fn P w K mg base k A.a__law_draw 2 (Γ 1)
  f__law_of : Fn P w K mg base k A.a__law_of 2 (Γ 2)
  f__law_value : Fn P w K mg base k A.a__law_value 1 (Γ 3)
  f__law_fields_stand : Fn P w K mg base k A.a__law_fields_stand 3 (Γ 4)
  f__law_first : Fn P w K mg base k A.a__law_first 1 (Γ 5)
  f__law_second : Fn P w K mg base k A.a__law_second 1 (Γ 6)
  f_law : Fn P w K mg base k A.a_law 1 (Γ 7)
section
variable {P : Program} {w : World} {K : PySem.W.Frag} {mg : Str → Option Value} {base : Heap} {A : Adr} {k : Nat} {Γ : Calls}
theorem xm_BadShape (T : Txt K mg A) (k : Nat) : XMk P w K mg base (k + 1) "BadShape" ["text"] := by
  obtain ⟨fd, F, b⟩ := T.ux_BadShape.ex
  exact ⟨A.c_BadShape, A.a_BadShape___init__, fd, _, T.c_BadShape, T.ox_BadShape, T.xq_BadShape.2, T.ix_BadShape, T.tx_BadShape, fnX1 (ts := "not a shape") F sc_BadShape___init__ (fun cdv B outer s H E => by exact (pss_cons (ps_expr (by exact pe_oinit T.xb_HandedcopiesError rfl (pa_cons (by exact pe_var (i := 0) rfl (Or.inl rfl)) (pa_cons (by exact pe_str) pa_nil)))) (pss_one (ps_ost (by exact pe_var (i := 0) rfl (Or.inl rfl)) (by exact pe_var (i := 1) rfl (Or.inl rfl)))))), b⟩
theorem xm_BadLine (T : Txt K mg A) (k : Nat) : XMk P w K mg base (k + 1) "BadLine" ["at"] := by
  obtain ⟨fd, F, b⟩ := T.ux_BadLine.ex
  exact ⟨A.c_BadLine, A.a_BadLine___init__, fd, _, T.c_BadLine, T.ox_BadLine, T.xq_BadLine.2, T.ix_BadLine, T.tx_BadLine, fnX1 (ts := "a line is wrong") F sc_BadLine___init__ (fun cdv B outer s H E => by exact (pss_cons (ps_expr (by exact pe_oinit T.xb_HandedcopiesError rfl (pa_cons (by exact pe_var (i := 0) rfl (Or.inl rfl)) (pa_cons (by exact pe_str) pa_nil)))) (pss_one (ps_ost (by exact pe_var (i := 0) rfl (Or.inl rfl)) (by exact pe_var (i := 1) rfl (Or.inl rfl)))))), b⟩
theorem xm_NoClass (T : Txt K mg A) (k : Nat) : XMk P w K mg base (k + 1) "NoClass" ["name"] := by
  obtain ⟨fd, F, b⟩ := T.ux_NoClass.ex
  exact ⟨A.c_NoClass, A.a_NoClass___init__, fd, _, T.c_NoClass, T.ox_NoClass, T.xq_NoClass.2, T.ix_NoClass, T.tx_NoClass, fnX1 (ts := "no such class") F sc_NoClass___init__ (fun cdv B outer s H E => by exact (pss_cons (ps_expr (by exact pe_oinit T.xb_HandedcopiesError rfl (pa_cons (by exact pe_var (i := 0) rfl (Or.inl rfl)) (pa_cons (by exact pe_str) pa_nil)))) (pss_one (ps_ost (by exact pe_var (i := 0) rfl (Or.inl rfl)) (by exact pe_var (i := 1) rfl (Or.inl rfl)))))), b⟩
theorem xm_BadField (T : Txt K mg A) (k : Nat) : XMk P w K mg base (k + 1) "BadField" ["name"] := by
  obtain ⟨fd, F, b⟩ := T.ux_BadField.ex
  exact ⟨A.c_BadField, A.a_BadField___init__, fd, _, T.c_BadField, T.ox_BadField, T.xq_BadField.2, T.ix_BadField, T.tx_BadField, fnX1 (ts := "a field has unlike shapes") F sc_BadField___init__ (fun cdv B outer s H E => by exact (pss_cons (ps_expr (by exact pe_oinit T.xb_HandedcopiesError rfl (pa_cons (by exact pe_var (i := 0) rfl (Or.inl rfl)) (pa_cons (by exact pe_str) pa_nil)))) (pss_one (ps_ost (by exact pe_var (i := 0) rfl (Or.inl rfl)) (by exact pe_var (i := 1) rfl (Or.inl rfl)))))), b⟩
theorem xm_TooMany (T : Txt K mg A) (k : Nat) : XMk P w K mg base (k + 1) "TooMany" ["what"] := by
  obtain ⟨fd, F, b⟩ := T.ux_TooMany.ex
  exact ⟨A.c_TooMany, A.a_TooMany___init__, fd, _, T.c_TooMany, T.ox_TooMany, T.xq_TooMany.2, T.ix_TooMany, T.tx_TooMany, fnX1 (ts := "too many") F sc_TooMany___init__ (fun cdv B outer s H E => by exact (pss_cons (ps_expr (by exact pe_oinit T.xb_HandedcopiesError rfl (pa_cons (by exact pe_var (i := 0) rfl (Or.inl rfl)) (pa_cons (by exact pe_str) pa_nil)))) (pss_one (ps_ost (by exact pe_var (i := 0) rfl (Or.inl rfl)) (by exact pe_var (i := 1) rfl (Or.inl rfl)))))), b⟩
theorem xm_BadRow (T : Txt K mg A) (k : Nat) : XMk P w K mg base (k + 1) "BadRow" ["owner", "method", "at"] := by
  obtain ⟨fd, F, b⟩ := T.ux_BadRow.ex
  exact ⟨A.c_BadRow, A.a_BadRow___init__, fd, _, T.c_BadRow, T.ox_BadRow, T.xq_BadRow.2, T.ix_BadRow, T.tx_BadRow, fnX3 (ts := "a row does not fit") F sc_BadRow___init__ (fun cdv B outer s H E => by exact (pss_cons (ps_expr (by exact pe_oinit T.xb_HandedcopiesError rfl (pa_cons (by exact pe_var (i := 0) rfl (Or.inl rfl)) (pa_cons (by exact pe_str) pa_nil)))) (pss_cons (ps_ost (by exact pe_var (i := 0) rfl (Or.inl rfl)) (by exact pe_var (i := 1) rfl (Or.inl rfl))) (pss_cons (ps_ost (by exact pe_var (i := 0) rfl (Or.inl rfl)) (by exact pe_var (i := 2) rfl (Or.inl rfl))) (pss_one (ps_ost (by exact pe_var (i := 0) rfl (Or.inl rfl)) (by exact pe_var (i := 3) rfl (Or.inl rfl)))))))), b⟩
theorem xm_BadMethod (T : Txt K mg A) (k : Nat) : XMk P w K mg base (k + 1) "BadMethod" ["owner", "method"] := by
  obtain ⟨fd, F, b⟩ := T.ux_BadMethod.ex
  exact ⟨A.c_BadMethod, A.a_BadMethod___init__, fd, _, T.c_BadMethod, T.ox_BadMethod, T.xq_BadMethod.2, T.ix_BadMethod, T.tx_BadMethod, fnX2 (ts := "a definition has another face") F sc_BadMethod___init__ (fun cdv B outer s H E => by exact (pss_cons (ps_expr (by exact pe_oinit T.xb_HandedcopiesError rfl (pa_cons (by exact pe_var (i := 0) rfl (Or.inl rfl)) (pa_cons (by exact pe_str) pa_nil)))) (pss_cons (ps_ost (by exact pe_var (i := 0) rfl (Or.inl rfl)) (by exact pe_var (i := 1) rfl (Or.inl rfl))) (pss_one (ps_ost (by exact pe_var (i := 0) rfl (Or.inl rfl)) (by exact pe_var (i := 2) rfl (Or.inl rfl))))))), b⟩
theorem xm_BadDeed (T : Txt K mg A) (k : Nat) : XMk P w K mg base (k + 1) "BadDeed" ["deed"] := by
  obtain ⟨fd, F, b⟩ := T.ux_BadDeed.ex
  exact ⟨A.c_BadDeed, A.a_BadDeed___init__, fd, _, T.c_BadDeed, T.ox_BadDeed, T.xq_BadDeed.2, T.ix_BadDeed, T.tx_BadDeed, fnX1 (ts := "not a deed") F sc_BadDeed___init__ (fun cdv B outer s H E => by exact (pss_cons (ps_expr (by exact pe_oinit T.xb_HandedcopiesError rfl (pa_cons (by exact pe_var (i := 0) rfl (Or.inl rfl)) (pa_cons (by exact pe_str) pa_nil)))) (pss_one (ps_ost (by exact pe_var (i := 0) rfl (Or.inl rfl)) (by exact pe_var (i := 1) rfl (Or.inl rfl)))))), b⟩
theorem xm_BadPlace (T : Txt K mg A) (k : Nat) : XMk P w K mg base (k + 1) "BadPlace" ["place"] := by
  obtain ⟨fd, F, b⟩ := T.ux_BadPlace.ex
  exact ⟨A.c_BadPlace, A.a_BadPlace___init__, fd, _, T.c_BadPlace, T.ox_BadPlace, T.xq_BadPlace.2, T.ix_BadPlace, T.tx_BadPlace, fnX1 (ts := "no such place") F sc_BadPlace___init__ (fun cdv B outer s H E => by exact (pss_cons (ps_expr (by exact pe_oinit T.xb_HandedcopiesError rfl (pa_cons (by exact pe_var (i := 0) rfl (Or.inl rfl)) (pa_cons (by exact pe_str) pa_nil)))) (pss_one (ps_ost (by exact pe_var (i := 0) rfl (Or.inl rfl)) (by exact pe_var (i := 1) rfl (Or.inl rfl)))))), b⟩
theorem xm_BadWorld (T : Txt K mg A) (k : Nat) : XMk P w K mg base (k + 1) "BadWorld" ["form"] := by
  obtain ⟨fd, F, b⟩ := T.ux_BadWorld.ex
  exact ⟨A.c_BadWorld, A.a_BadWorld___init__, fd, _, T.c_BadWorld, T.ox_BadWorld, T.xq_BadWorld.2, T.ix_BadWorld, T.tx_BadWorld, fnX1 (ts := "not a world") F sc_BadWorld___init__ (fun cdv B outer s H E => by exact (pss_cons (ps_expr (by exact pe_oinit T.xb_HandedcopiesError rfl (pa_cons (by exact pe_var (i := 0) rfl (Or.inl rfl)) (pa_cons (by exact pe_str) pa_nil)))) (pss_one (ps_ost (by exact pe_var (i := 0) rfl (Or.inl rfl)) (by exact pe_var (i := 1) rfl (Or.inl rfl)))))), b⟩
theorem xm_BadLabel (T : Txt K mg A) (k : Nat) : XMk P w K mg base (k + 1) "BadLabel" ["label"] := by
  obtain ⟨fd, F, b⟩ := T.ux_BadLabel.ex
  exact ⟨A.c_BadLabel, A.a_BadLabel___init__, fd, _, T.c_BadLabel, T.ox_BadLabel, T.xq_BadLabel.2, T.ix_BadLabel, T.tx_BadLabel, fnX1 (ts := "not a label") F sc_BadLabel___init__ (fun cdv B outer s H E => by exact (pss_cons (ps_expr (by exact pe_oinit T.xb_HandedcopiesError rfl (pa_cons (by exact pe_var (i := 0) rfl (Or.inl rfl)) (pa_cons (by exact pe_str) pa_nil)))) (pss_one (ps_ost (by exact pe_var (i := 0) rfl (Or.inl rfl)) (by exact pe_var (i := 1) rfl (Or.inl rfl)))))), b⟩
theorem xm_BadGoal (T : Txt K mg A) (k : Nat) : XMk P w K mg base (k + 1) "BadGoal" ["goal"] := by
  obtain ⟨fd, F, b⟩ := T.ux_BadGoal.ex
  exact ⟨A.c_BadGoal, A.a_BadGoal___init__, fd, _, T.c_BadGoal, T.ox_BadGoal, T.xq_BadGoal.2, T.ix_BadGoal, T.tx_BadGoal, fnX1 (ts := "not a goal") F sc_BadGoal___init__ (fun cdv B outer s H E => by exact (pss_cons (ps_expr (by exact pe_oinit T.xb_HandedcopiesError rfl (pa_cons (by exact pe_var (i := 0) rfl (Or.inl rfl)) (pa_cons (by exact pe_str) pa_nil)))) (pss_one (ps_ost (by exact pe_var (i := 0) rfl (Or.inl rfl)) (by exact pe_var (i := 1) rfl (Or.inl rfl)))))), b⟩
theorem xm_BadWhen (T : Txt K mg A) (k : Nat) : XMk P w K mg base (k + 1) "BadWhen" ["when"] := by
  obtain ⟨fd, F, b⟩ := T.ux_BadWhen.ex
  exact ⟨A.c_BadWhen, A.a_BadWhen___init__, fd, _, T.c_BadWhen, T.ox_BadWhen, T.xq_BadWhen.2, T.ix_BadWhen, T.tx_BadWhen, fnX1 (ts := "not a when") F sc_BadWhen___init__ (fun cdv B outer s H E => by exact (pss_cons (ps_expr (by exact pe_oinit T.xb_HandedcopiesError rfl (pa_cons (by exact pe_var (i := 0) rfl (Or.inl rfl)) (pa_cons (by exact pe_str) pa_nil)))) (pss_one (ps_ost (by exact pe_var (i := 0) rfl (Or.inl rfl)) (by exact pe_var (i := 1) rfl (Or.inl rfl)))))), b⟩
theorem xm_BadMend (T : Txt K mg A) (k : Nat) : XMk P w K mg base (k + 1) "BadMend" ["at"] := by
  obtain ⟨fd, F, b⟩ := T.ux_BadMend.ex
  exact ⟨A.c_BadMend, A.a_BadMend___init__, fd, _, T.c_BadMend, T.ox_BadMend, T.xq_BadMend.2, T.ix_BadMend, T.tx_BadMend, fnX1 (ts := "a pair is wrong") F sc_BadMend___init__ (fun cdv B outer s H E => by exact (pss_cons (ps_expr (by exact pe_oinit T.xb_HandedcopiesError rfl (pa_cons (by exact pe_var (i := 0) rfl (Or.inl rfl)) (pa_cons (by exact pe_str) pa_nil)))) (pss_one (ps_ost (by exact pe_var (i := 0) rfl (Or.inl rfl)) (by exact pe_var (i := 1) rfl (Or.inl rfl)))))), b⟩
theorem xm_NoDoor (T : Txt K mg A) (k : Nat) : XMk P w K mg base (k + 1) "NoDoor" ["door"] := by
  obtain ⟨fd, F, b⟩ := T.ux_NoDoor.ex
  exact ⟨A.c_NoDoor, A.a_NoDoor___init__, fd, _, T.c_NoDoor, T.ox_NoDoor, T.xq_NoDoor.2, T.ix_NoDoor, T.tx_NoDoor, fnX1 (ts := "no such door") F sc_NoDoor___init__ (fun cdv B outer s H E => by exact (pss_cons (ps_expr (by exact pe_oinit T.xb_HandedcopiesError rfl (pa_cons (by exact pe_var (i := 0) rfl (Or.inl rfl)) (pa_cons (by exact pe_str) pa_nil)))) (pss_one (ps_ost (by exact pe_var (i := 0) rfl (Or.inl rfl)) (by exact pe_var (i := 1) rfl (Or.inl rfl)))))), b⟩
theorem xm_BadName (T : Txt K mg A) (k : Nat) : XMk P w K mg base (k + 1) "BadName" ["name"] := by
  obtain ⟨fd, F, b⟩ := T.ux_BadName.ex
  exact ⟨A.c_BadName, A.a_BadName___init__, fd, _, T.c_BadName, T.ox_BadName, T.xq_BadName.2, T.ix_BadName, T.tx_BadName, fnX1 (ts := "not a new class name") F sc_BadName___init__ (fun cdv B outer s H E => by exact (pss_cons (ps_expr (by exact pe_oinit T.xb_HandedcopiesError rfl (pa_cons (by exact pe_var (i := 0) rfl (Or.inl rfl)) (pa_cons (by exact pe_str) pa_nil)))) (pss_one (ps_ost (by exact pe_var (i := 0) rfl (Or.inl rfl)) (by exact pe_var (i := 1) rfl (Or.inl rfl)))))), b⟩
theorem xm_UnlikeFaces (T : Txt K mg A) (k : Nat) : XMk P w K mg base (k + 1) "UnlikeFaces" ["method"] := by
  obtain ⟨fd, F, b⟩ := T.ux_UnlikeFaces.ex
  exact ⟨A.c_UnlikeFaces, A.a_UnlikeFaces___init__, fd, _, T.c_UnlikeFaces, T.ox_UnlikeFaces, T.xq_UnlikeFaces.2, T.ix_UnlikeFaces, T.tx_UnlikeFaces, fnX1 (ts := "unlike faces") F sc_UnlikeFaces___init__ (fun cdv B outer s H E => by exact (pss_cons (ps_expr (by exact pe_oinit T.xb_HandedcopiesError rfl (pa_cons (by exact pe_var (i := 0) rfl (Or.inl rfl)) (pa_cons (by exact pe_str) pa_nil)))) (pss_one (ps_ost (by exact pe_var (i := 0) rfl (Or.inl rfl)) (by exact pe_var (i := 1) rfl (Or.inl rfl)))))), b⟩
theorem xr_Shut (T : Txt K mg A) (k : Nat) : XErr P w K mg base (k + 1) "Shut" ["method"] := by
  obtain ⟨fd, F, b⟩ := T.ux_Shut.ex
  exact ⟨A.c_Shut, A.a_Shut___init__, fd, _, _, _, _, _, reTail, T.c_Shut, PySem.F.excBase_RuntimeError, fun Y => rfl, T.or_Shut.cls, T.ok_Shut, T.ix_Shut, T.tx_Shut, fnR1 (C := A.c_Shut) (ts := "the method cannot be called now") F sc_Shut___init__ (fun cdv B outer s H E => by exact (pss_cons (ps_expr (by exact pe_reinit T.or_Shut T.b_RuntimeError T.re0 (pa_cons (by exact pe_var (i := 0) rfl (Or.inl rfl)) (pa_cons (by exact pe_str) pa_nil)))) (pss_one (ps_os1 T.or_Shut (by exact pe_var (i := 0) rfl (Or.inl rfl)) (by exact pe_var (i := 1) rfl (Or.inl rfl)))))), b⟩
theorem xe_BadShape (T : Txt K mg A) (k : Nat) : XErr P w K mg base (k + 1) "BadShape" ["text"] := (xm_BadShape T k).err
theorem xe_BadLine (T : Txt K mg A) (k : Nat) : XErr P w K mg base (k + 1) "BadLine" ["at"] := (xm_BadLine T k).err
theorem xe_NoClass (T : Txt K mg A) (k : Nat) : XErr P w K mg base (k + 1) "NoClass" ["name"] := (xm_NoClass T k).err
theorem xe_BadField (T : Txt K mg A) (k : Nat) : XErr P w K mg base (k + 1) "BadField" ["name"] := (xm_BadField T k).err
theorem xe_TooMany (T : Txt K mg A) (k : Nat) : XErr P w K mg base (k + 1) "TooMany" ["what"] := (xm_TooMany T k).err
theorem xe_BadRow (T : Txt K mg A) (k : Nat) : XErr P w K mg base (k + 1) "BadRow" ["owner", "method", "at"] := (xm_BadRow T k).err
theorem xe_BadMethod (T : Txt K mg A) (k : Nat) : XErr P w K mg base (k + 1) "BadMethod" ["owner", "method"] := (xm_BadMethod T k).err
theorem xe_BadDeed (T : Txt K mg A) (k : Nat) : XErr P w K mg base (k + 1) "BadDeed" ["deed"] := (xm_BadDeed T k).err
theorem xe_BadPlace (T : Txt K mg A) (k : Nat) : XErr P w K mg base (k + 1) "BadPlace" ["place"] := (xm_BadPlace T k).err
theorem xe_BadWorld (T : Txt K mg A) (k : Nat) : XErr P w K mg base (k + 1) "BadWorld" ["form"] := (xm_BadWorld T k).err
theorem xe_BadLabel (T : Txt K mg A) (k : Nat) : XErr P w K mg base (k + 1) "BadLabel" ["label"] := (xm_BadLabel T k).err
theorem xe_BadGoal (T : Txt K mg A) (k : Nat) : XErr P w K mg base (k + 1) "BadGoal" ["goal"] := (xm_BadGoal T k).err
theorem xe_BadWhen (T : Txt K mg A) (k : Nat) : XErr P w K mg base (k + 1) "BadWhen" ["when"] := (xm_BadWhen T k).err
theorem xe_BadMend (T : Txt K mg A) (k : Nat) : XErr P w K mg base (k + 1) "BadMend" ["at"] := (xm_BadMend T k).err
theorem xe_NoDoor (T : Txt K mg A) (k : Nat) : XErr P w K mg base (k + 1) "NoDoor" ["door"] := (xm_NoDoor T k).err
theorem xe_BadName (T : Txt K mg A) (k : Nat) : XErr P w K mg base (k + 1) "BadName" ["name"] := (xm_BadName T k).err
theorem xe_UnlikeFaces (T : Txt K mg A) (k : Nat) : XErr P w K mg base (k + 1) "UnlikeFaces" ["method"] := (xm_UnlikeFaces T k).err
theorem kq_BadDeed (T : Txt K mg A) : ∀ q ∈ TI_BadDeed, ∀ C, mg q.1 = some (.ref C) → XIs K C ∧ PySem.W.kitOne K (.ref C) (.ref A.c_BadDeed) = some q.2 := kits_of (.cons T.c_BadShape T.xi_BadShape (.cons T.c_BadLine T.xi_BadLine (.cons T.c_NoClass T.xi_NoClass (.cons T.c_BadField T.xi_BadField (.cons T.c_TooMany T.xi_TooMany (.cons T.c_BadRow T.xi_BadRow (.cons T.c_BadMethod T.xi_BadMethod (.cons T.c_BadDeed T.xi_BadDeed (.cons T.c_BadPlace T.xi_BadPlace (.cons T.c_BadWorld T.xi_BadWorld (.cons T.c_BadLabel T.xi_BadLabel (.cons T.c_BadGoal T.xi_BadGoal (.cons T.c_BadWhen T.xi_BadWhen (.cons T.c_BadMend T.xi_BadMend (.cons T.c_NoDoor T.xi_NoDoor (.cons T.c_BadName T.xi_BadName (.cons T.c_UnlikeFaces T.xi_UnlikeFaces (.cons T.c_Busy T.xi_Busy (.cons T.c_NotAsked T.xi_NotAsked (.cons T.c_Shut T.xi_Shut (.cons T.c_HandedcopiesError T.xi_HandedcopiesError (.nil)))))))))))))))))))))) T.kx_BadDeed
theorem kq_BadField (T : Txt K mg A) : ∀ q ∈ TI_BadField, ∀ C, mg q.1 = some (.ref C) → XIs K C ∧ PySem.W.kitOne K (.ref C) (.ref A.c_BadField) = some q.2 := kits_of (.cons T.c_BadShape T.xi_BadShape (.cons T.c_BadLine T.xi_BadLine (.cons T.c_NoClass T.xi_NoClass (.cons T.c_BadField T.xi_BadField (.cons T.c_TooMany T.xi_TooMany (.cons T.c_BadRow T.xi_BadRow (.cons T.c_BadMethod T.xi_BadMethod (.cons T.c_BadDeed T.xi_BadDeed (.cons T.c_BadPlace T.xi_BadPlace (.cons T.c_BadWorld T.xi_BadWorld (.cons T.c_BadLabel T.xi_BadLabel (.cons T.c_BadGoal T.xi_BadGoal (.cons T.c_BadWhen T.xi_BadWhen (.cons T.c_BadMend T.xi_BadMend (.cons T.c_NoDoor T.xi_NoDoor (.cons T.c_BadName T.xi_BadName (.cons T.c_UnlikeFaces T.xi_UnlikeFaces (.cons T.c_Busy T.xi_Busy (.cons T.c_NotAsked T.xi_NotAsked (.cons T.c_Shut T.xi_Shut (.cons T.c_HandedcopiesError T.xi_HandedcopiesError (.nil)))))))))))))))))))))) T.kx_BadField
theorem kq_BadGoal (T : Txt K mg A) : ∀ q ∈ TI_BadGoal, ∀ C, mg q.1 = some (.ref C) → XIs K C ∧ PySem.W.kitOne K (.ref C) (.ref A.c_BadGoal) = some q.2 := kits_of (.cons T.c_BadShape T.xi_BadShape (.cons T.c_BadLine T.xi_BadLine (.cons T.c_NoClass T.xi_NoClass (.cons T.c_BadField T.xi_BadField (.cons T.c_TooMany T.xi_TooMany (.cons T.c_BadRow T.xi_BadRow (.cons T.c_BadMethod T.xi_BadMethod (.cons T.c_BadDeed T.xi_BadDeed (.cons T.c_BadPlace T.xi_BadPlace (.cons T.c_BadWorld T.xi_BadWorld (.cons T.c_BadLabel T.xi_BadLabel (.cons T.c_BadGoal T.xi_BadGoal (.cons T.c_BadWhen T.xi_BadWhen (.cons T.c_BadMend T.xi_BadMend (.cons T.c_NoDoor T.xi_NoDoor (.cons T.c_BadName T.xi_BadName (.cons T.c_UnlikeFaces T.xi_UnlikeFaces (.cons T.c_Busy T.xi_Busy (.cons T.c_NotAsked T.xi_NotAsked (.cons T.c_Shut T.xi_Shut (.cons T.c_HandedcopiesError T.xi_HandedcopiesError (.nil)))))))))))))))))))))) T.kx_BadGoal
theorem kq_BadLabel (T : Txt K mg A) : ∀ q ∈ TI_BadLabel, ∀ C, mg q.1 = some (.ref C) → XIs K C ∧ PySem.W.kitOne K (.ref C) (.ref A.c_BadLabel) = some q.2 := kits_of (.cons T.c_BadShape T.xi_BadShape (.cons T.c_BadLine T.xi_BadLine (.cons T.c_NoClass T.xi_NoClass (.cons T.c_BadField T.xi_BadField (.cons T.c_TooMany T.xi_TooMany (.cons T.c_BadRow T.xi_BadRow (.cons T.c_BadMethod T.xi_BadMethod (.cons T.c_BadDeed T.xi_BadDeed (.cons T.c_BadPlace T.xi_BadPlace (.cons T.c_BadWorld T.xi_BadWorld (.cons T.c_BadLabel T.xi_BadLabel (.cons T.c_BadGoal T.xi_BadGoal (.cons T.c_BadWhen T.xi_BadWhen (.cons T.c_BadMend T.xi_BadMend (.cons T.c_NoDoor T.xi_NoDoor (.cons T.c_BadName T.xi_BadName (.cons T.c_UnlikeFaces T.xi_UnlikeFaces (.cons T.c_Busy T.xi_Busy (.cons T.c_NotAsked T.xi_NotAsked (.cons T.c_Shut T.xi_Shut (.cons T.c_HandedcopiesError T.xi_HandedcopiesError (.nil)))))))))))))))))))))) T.kx_BadLabel
theorem kq_BadLine (T : Txt K mg A) : ∀ q ∈ TI_BadLine, ∀ C, mg q.1 = some (.ref C) → XIs K C ∧ PySem.W.kitOne K (.ref C) (.ref A.c_BadLine) = some q.2 := kits_of (.cons T.c_BadShape T.xi_BadShape (.cons T.c_BadLine T.xi_BadLine (.cons T.c_NoClass T.xi_NoClass (.cons T.c_BadField T.xi_BadField (.cons T.c_TooMany T.xi_TooMany (.cons T.c_BadRow T.xi_BadRow (.cons T.c_BadMethod T.xi_BadMethod (.cons T.c_BadDeed T.xi_BadDeed (.cons T.c_BadPlace T.xi_BadPlace (.cons T.c_BadWorld T.xi_BadWorld (.cons T.c_BadLabel T.xi_BadLabel (.cons T.c_BadGoal T.xi_BadGoal (.cons T.c_BadWhen T.xi_BadWhen (.cons T.c_BadMend T.xi_BadMend (.cons T.c_NoDoor T.xi_NoDoor (.cons T.c_BadName T.xi_BadName (.cons T.c_UnlikeFaces T.xi_UnlikeFaces (.cons T.c_Busy T.xi_Busy (.cons T.c_NotAsked T.xi_NotAsked (.cons T.c_Shut T.xi_Shut (.cons T.c_HandedcopiesError T.xi_HandedcopiesError (.nil)))))))))))))))))))))) T.kx_BadLine
theorem kq_BadMend (T : Txt K mg A) : ∀ q ∈ TI_BadMend, ∀ C, mg q.1 = some (.ref C) → XIs K C ∧ PySem.W.kitOne K (.ref C) (.ref A.c_BadMend) = some q.2 := kits_of (.cons T.c_BadShape T.xi_BadShape (.cons T.c_BadLine T.xi_BadLine (.cons T.c_NoClass T.xi_NoClass (.cons T.c_BadField T.xi_BadField (.cons T.c_TooMany T.xi_TooMany (.cons T.c_BadRow T.xi_BadRow (.cons T.c_BadMethod T.xi_BadMethod (.cons T.c_BadDeed T.xi_BadDeed (.cons T.c_BadPlace T.xi_BadPlace (.cons T.c_BadWorld T.xi_BadWorld (.cons T.c_BadLabel T.xi_BadLabel (.cons T.c_BadGoal T.xi_BadGoal (.cons T.c_BadWhen T.xi_BadWhen (.cons T.c_BadMend T.xi_BadMend (.cons T.c_NoDoor T.xi_NoDoor (.cons T.c_BadName T.xi_BadName (.cons T.c_UnlikeFaces T.xi_UnlikeFaces (.cons T.c_Busy T.xi_Busy (.cons T.c_NotAsked T.xi_NotAsked (.cons T.c_Shut T.xi_Shut (.cons T.c_HandedcopiesError T.xi_HandedcopiesError (.nil)))))))))))))))))))))) T.kx_BadMend
theorem kq_BadMethod (T : Txt K mg A) : ∀ q ∈ TI_BadMethod, ∀ C, mg q.1 = some (.ref C) → XIs K C ∧ PySem.W.kitOne K (.ref C) (.ref A.c_BadMethod) = some q.2 := kits_of (.cons T.c_BadShape T.xi_BadShape (.cons T.c_BadLine T.xi_BadLine (.cons T.c_NoClass T.xi_NoClass (.cons T.c_BadField T.xi_BadField (.cons T.c_TooMany T.xi_TooMany (.cons T.c_BadRow T.xi_BadRow (.cons T.c_BadMethod T.xi_BadMethod (.cons T.c_BadDeed T.xi_BadDeed (.cons T.c_BadPlace T.xi_BadPlace (.cons T.c_BadWorld T.xi_BadWorld (.cons T.c_BadLabel T.xi_BadLabel (.cons T.c_BadGoal T.xi_BadGoal (.cons T.c_BadWhen T.xi_BadWhen (.cons T.c_BadMend T.xi_BadMend (.cons T.c_NoDoor T.xi_NoDoor (.cons T.c_BadName T.xi_BadName (.cons T.c_UnlikeFaces T.xi_UnlikeFaces (.cons T.c_Busy T.xi_Busy (.cons T.c_NotAsked T.xi_NotAsked (.cons T.c_Shut T.xi_Shut (.cons T.c_HandedcopiesError T.xi_HandedcopiesError (.nil)))))))))))))))))))))) T.kx_BadMethod
theorem kq_BadName (T : Txt K mg A) : ∀ q ∈ TI_BadName, ∀ C, mg q.1 = some (.ref C) → XIs K C ∧ PySem.W.kitOne K (.ref C) (.ref A.c_BadName) = some q.2 := kits_of (.cons T.c_BadShape T.xi_BadShape (.cons T.c_BadLine T.xi_BadLine (.cons T.c_NoClass T.xi_NoClass (.cons T.c_BadField T.xi_BadField (.cons T.c_TooMany T.xi_TooMany (.cons T.c_BadRow T.xi_BadRow (.cons T.c_BadMethod T.xi_BadMethod (.cons T.c_BadDeed T.xi_BadDeed (.cons T.c_BadPlace T.xi_BadPlace (.cons T.c_BadWorld T.xi_BadWorld (.cons T.c_BadLabel T.xi_BadLabel (.cons T.c_BadGoal T.xi_BadGoal (.cons T.c_BadWhen T.xi_BadWhen (.cons T.c_BadMend T.xi_BadMend (.cons T.c_NoDoor T.xi_NoDoor (.cons T.c_BadName T.xi_BadName (.cons T.c_UnlikeFaces T.xi_UnlikeFaces (.cons T.c_Busy T.xi_Busy (.cons T.c_NotAsked T.xi_NotAsked (.cons T.c_Shut T.xi_Shut (.cons T.c_HandedcopiesError T.xi_HandedcopiesError (.nil)))))))))))))))))))))) T.kx_BadName
theorem kq_BadPlace (T : Txt K mg A) : ∀ q ∈ TI_BadPlace, ∀ C, mg q.1 = some (.ref C) → XIs K C ∧ PySem.W.kitOne K (.ref C) (.ref A.c_BadPlace) = some q.2 := kits_of (.cons T.c_BadShape T.xi_BadShape (.cons T.c_BadLine T.xi_BadLine (.cons T.c_NoClass T.xi_NoClass (.cons T.c_BadField T.xi_BadField (.cons T.c_TooMany T.xi_TooMany (.cons T.c_BadRow T.xi_BadRow (.cons T.c_BadMethod T.xi_BadMethod (.cons T.c_BadDeed T.xi_BadDeed (.cons T.c_BadPlace T.xi_BadPlace (.cons T.c_BadWorld T.xi_BadWorld (.cons T.c_BadLabel T.xi_BadLabel (.cons T.c_BadGoal T.xi_BadGoal (.cons T.c_BadWhen T.xi_BadWhen (.cons T.c_BadMend T.xi_BadMend (.cons T.c_NoDoor T.xi_NoDoor (.cons T.c_BadName T.xi_BadName (.cons T.c_UnlikeFaces T.xi_UnlikeFaces (.cons T.c_Busy T.xi_Busy (.cons T.c_NotAsked T.xi_NotAsked (.cons T.c_Shut T.xi_Shut (.cons T.c_HandedcopiesError T.xi_HandedcopiesError (.nil)))))))))))))))))))))) T.kx_BadPlace
theorem kq_BadRow (T : Txt K mg A) : ∀ q ∈ TI_BadRow, ∀ C, mg q.1 = some (.ref C) → XIs K C ∧ PySem.W.kitOne K (.ref C) (.ref A.c_BadRow) = some q.2 := kits_of (.cons T.c_BadShape T.xi_BadShape (.cons T.c_BadLine T.xi_BadLine (.cons T.c_NoClass T.xi_NoClass (.cons T.c_BadField T.xi_BadField (.cons T.c_TooMany T.xi_TooMany (.cons T.c_BadRow T.xi_BadRow (.cons T.c_BadMethod T.xi_BadMethod (.cons T.c_BadDeed T.xi_BadDeed (.cons T.c_BadPlace T.xi_BadPlace (.cons T.c_BadWorld T.xi_BadWorld (.cons T.c_BadLabel T.xi_BadLabel (.cons T.c_BadGoal T.xi_BadGoal (.cons T.c_BadWhen T.xi_BadWhen (.cons T.c_BadMend T.xi_BadMend (.cons T.c_NoDoor T.xi_NoDoor (.cons T.c_BadName T.xi_BadName (.cons T.c_UnlikeFaces T.xi_UnlikeFaces (.cons T.c_Busy T.xi_Busy (.cons T.c_NotAsked T.xi_NotAsked (.cons T.c_Shut T.xi_Shut (.cons T.c_HandedcopiesError T.xi_HandedcopiesError (.nil)))))))))))))))))))))) T.kx_BadRow
theorem kq_BadShape (T : Txt K mg A) : ∀ q ∈ TI_BadShape, ∀ C, mg q.1 = some (.ref C) → XIs K C ∧ PySem.W.kitOne K (.ref C) (.ref A.c_BadShape) = some q.2 := kits_of (.cons T.c_BadShape T.xi_BadShape (.cons T.c_BadLine T.xi_BadLine (.cons T.c_NoClass T.xi_NoClass (.cons T.c_BadField T.xi_BadField (.cons T.c_TooMany T.xi_TooMany (.cons T.c_BadRow T.xi_BadRow (.cons T.c_BadMethod T.xi_BadMethod (.cons T.c_BadDeed T.xi_BadDeed (.cons T.c_BadPlace T.xi_BadPlace (.cons T.c_BadWorld T.xi_BadWorld (.cons T.c_BadLabel T.xi_BadLabel (.cons T.c_BadGoal T.xi_BadGoal (.cons T.c_BadWhen T.xi_BadWhen (.cons T.c_BadMend T.xi_BadMend (.cons T.c_NoDoor T.xi_NoDoor (.cons T.c_BadName T.xi_BadName (.cons T.c_UnlikeFaces T.xi_UnlikeFaces (.cons T.c_Busy T.xi_Busy (.cons T.c_NotAsked T.xi_NotAsked (.cons T.c_Shut T.xi_Shut (.cons T.c_HandedcopiesError T.xi_HandedcopiesError (.nil)))))))))))))))))))))) T.kx_BadShape
theorem kq_BadWhen (T : Txt K mg A) : ∀ q ∈ TI_BadWhen, ∀ C, mg q.1 = some (.ref C) → XIs K C ∧ PySem.W.kitOne K (.ref C) (.ref A.c_BadWhen) = some q.2 := kits_of (.cons T.c_BadShape T.xi_BadShape (.cons T.c_BadLine T.xi_BadLine (.cons T.c_NoClass T.xi_NoClass (.cons T.c_BadField T.xi_BadField (.cons T.c_TooMany T.xi_TooMany (.cons T.c_BadRow T.xi_BadRow (.cons T.c_BadMethod T.xi_BadMethod (.cons T.c_BadDeed T.xi_BadDeed (.cons T.c_BadPlace T.xi_BadPlace (.cons T.c_BadWorld T.xi_BadWorld (.cons T.c_BadLabel T.xi_BadLabel (.cons T.c_BadGoal T.xi_BadGoal (.cons T.c_BadWhen T.xi_BadWhen (.cons T.c_BadMend T.xi_BadMend (.cons T.c_NoDoor T.xi_NoDoor (.cons T.c_BadName T.xi_BadName (.cons T.c_UnlikeFaces T.xi_UnlikeFaces (.cons T.c_Busy T.xi_Busy (.cons T.c_NotAsked T.xi_NotAsked (.cons T.c_Shut T.xi_Shut (.cons T.c_HandedcopiesError T.xi_HandedcopiesError (.nil)))))))))))))))))))))) T.kx_BadWhen
theorem kq_BadWorld (T : Txt K mg A) : ∀ q ∈ TI_BadWorld, ∀ C, mg q.1 = some (.ref C) → XIs K C ∧ PySem.W.kitOne K (.ref C) (.ref A.c_BadWorld) = some q.2 := kits_of (.cons T.c_BadShape T.xi_BadShape (.cons T.c_BadLine T.xi_BadLine (.cons T.c_NoClass T.xi_NoClass (.cons T.c_BadField T.xi_BadField (.cons T.c_TooMany T.xi_TooMany (.cons T.c_BadRow T.xi_BadRow (.cons T.c_BadMethod T.xi_BadMethod (.cons T.c_BadDeed T.xi_BadDeed (.cons T.c_BadPlace T.xi_BadPlace (.cons T.c_BadWorld T.xi_BadWorld (.cons T.c_BadLabel T.xi_BadLabel (.cons T.c_BadGoal T.xi_BadGoal (.cons T.c_BadWhen T.xi_BadWhen (.cons T.c_BadMend T.xi_BadMend (.cons T.c_NoDoor T.xi_NoDoor (.cons T.c_BadName T.xi_BadName (.cons T.c_UnlikeFaces T.xi_UnlikeFaces (.cons T.c_Busy T.xi_Busy (.cons T.c_NotAsked T.xi_NotAsked (.cons T.c_Shut T.xi_Shut (.cons T.c_HandedcopiesError T.xi_HandedcopiesError (.nil)))))))))))))))))))))) T.kx_BadWorld
theorem kq_Busy (T : Txt K mg A) : ∀ q ∈ TI_Busy, ∀ C, mg q.1 = some (.ref C) → XIs K C ∧ PySem.W.kitOne K (.ref C) (.ref A.c_Busy) = some q.2 := kits_of (.cons T.c_BadShape T.xi_BadShape (.cons T.c_BadLine T.xi_BadLine (.cons T.c_NoClass T.xi_NoClass (.cons T.c_BadField T.xi_BadField (.cons T.c_TooMany T.xi_TooMany (.cons T.c_BadRow T.xi_BadRow (.cons T.c_BadMethod T.xi_BadMethod (.cons T.c_BadDeed T.xi_BadDeed (.cons T.c_BadPlace T.xi_BadPlace (.cons T.c_BadWorld T.xi_BadWorld (.cons T.c_BadLabel T.xi_BadLabel (.cons T.c_BadGoal T.xi_BadGoal (.cons T.c_BadWhen T.xi_BadWhen (.cons T.c_BadMend T.xi_BadMend (.cons T.c_NoDoor T.xi_NoDoor (.cons T.c_BadName T.xi_BadName (.cons T.c_UnlikeFaces T.xi_UnlikeFaces (.cons T.c_Busy T.xi_Busy (.cons T.c_NotAsked T.xi_NotAsked (.cons T.c_Shut T.xi_Shut (.cons T.c_HandedcopiesError T.xi_HandedcopiesError (.nil)))))))))))))))))))))) T.kx_Busy
theorem kq_HandedcopiesError (T : Txt K mg A) : ∀ q ∈ TI_HandedcopiesError, ∀ C, mg q.1 = some (.ref C) → XIs K C ∧ PySem.W.kitOne K (.ref C) (.ref A.c_HandedcopiesError) = some q.2 := kits_of (.cons T.c_BadShape T.xi_BadShape (.cons T.c_BadLine T.xi_BadLine (.cons T.c_NoClass T.xi_NoClass (.cons T.c_BadField T.xi_BadField (.cons T.c_TooMany T.xi_TooMany (.cons T.c_BadRow T.xi_BadRow (.cons T.c_BadMethod T.xi_BadMethod (.cons T.c_BadDeed T.xi_BadDeed (.cons T.c_BadPlace T.xi_BadPlace (.cons T.c_BadWorld T.xi_BadWorld (.cons T.c_BadLabel T.xi_BadLabel (.cons T.c_BadGoal T.xi_BadGoal (.cons T.c_BadWhen T.xi_BadWhen (.cons T.c_BadMend T.xi_BadMend (.cons T.c_NoDoor T.xi_NoDoor (.cons T.c_BadName T.xi_BadName (.cons T.c_UnlikeFaces T.xi_UnlikeFaces (.cons T.c_Busy T.xi_Busy (.cons T.c_NotAsked T.xi_NotAsked (.cons T.c_Shut T.xi_Shut (.cons T.c_HandedcopiesError T.xi_HandedcopiesError (.nil)))))))))))))))))))))) T.kx_HandedcopiesError
theorem kq_LookupError (T : Txt K mg A) : ∀ q ∈ TI_LookupError, ∀ C, mg q.1 = some (.ref C) → XIs K C ∧ PySem.W.kitOne K (.ref C) (.type "LookupError") = some q.2 := kits_of (.cons T.c_BadShape T.xi_BadShape (.cons T.c_BadLine T.xi_BadLine (.cons T.c_NoClass T.xi_NoClass (.cons T.c_BadField T.xi_BadField (.cons T.c_TooMany T.xi_TooMany (.cons T.c_BadRow T.xi_BadRow (.cons T.c_BadMethod T.xi_BadMethod (.cons T.c_BadDeed T.xi_BadDeed (.cons T.c_BadPlace T.xi_BadPlace (.cons T.c_BadWorld T.xi_BadWorld (.cons T.c_BadLabel T.xi_BadLabel (.cons T.c_BadGoal T.xi_BadGoal (.cons T.c_BadWhen T.xi_BadWhen (.cons T.c_BadMend T.xi_BadMend (.cons T.c_NoDoor T.xi_NoDoor (.cons T.c_BadName T.xi_BadName (.cons T.c_UnlikeFaces T.xi_UnlikeFaces (.cons T.c_Busy T.xi_Busy (.cons T.c_NotAsked T.xi_NotAsked (.cons T.c_Shut T.xi_Shut (.cons T.c_HandedcopiesError T.xi_HandedcopiesError (.nil)))))))))))))))))))))) T.kx_LookupError
theorem kq_NoClass (T : Txt K mg A) : ∀ q ∈ TI_NoClass, ∀ C, mg q.1 = some (.ref C) → XIs K C ∧ PySem.W.kitOne K (.ref C) (.ref A.c_NoClass) = some q.2 := kits_of (.cons T.c_BadShape T.xi_BadShape (.cons T.c_BadLine T.xi_BadLine (.cons T.c_NoClass T.xi_NoClass (.cons T.c_BadField T.xi_BadField (.cons T.c_TooMany T.xi_TooMany (.cons T.c_BadRow T.xi_BadRow (.cons T.c_BadMethod T.xi_BadMethod (.cons T.c_BadDeed T.xi_BadDeed (.cons T.c_BadPlace T.xi_BadPlace (.cons T.c_BadWorld T.xi_BadWorld (.cons T.c_BadLabel T.xi_BadLabel (.cons T.c_BadGoal T.xi_BadGoal (.cons T.c_BadWhen T.xi_BadWhen (.cons T.c_BadMend T.xi_BadMend (.cons T.c_NoDoor T.xi_NoDoor (.cons T.c_BadName T.xi_BadName (.cons T.c_UnlikeFaces T.xi_UnlikeFaces (.cons T.c_Busy T.xi_Busy (.cons T.c_NotAsked T.xi_NotAsked (.cons T.c_Shut T.xi_Shut (.cons T.c_HandedcopiesError T.xi_HandedcopiesError (.nil)))))))))))))))))))))) T.kx_NoClass
theorem kq_NoDoor (T : Txt K mg A) : ∀ q ∈ TI_NoDoor, ∀ C, mg q.1 = some (.ref C) → XIs K C ∧ PySem.W.kitOne K (.ref C) (.ref A.c_NoDoor) = some q.2 := kits_of (.cons T.c_BadShape T.xi_BadShape (.cons T.c_BadLine T.xi_BadLine (.cons T.c_NoClass T.xi_NoClass (.cons T.c_BadField T.xi_BadField (.cons T.c_TooMany T.xi_TooMany (.cons T.c_BadRow T.xi_BadRow (.cons T.c_BadMethod T.xi_BadMethod (.cons T.c_BadDeed T.xi_BadDeed (.cons T.c_BadPlace T.xi_BadPlace (.cons T.c_BadWorld T.xi_BadWorld (.cons T.c_BadLabel T.xi_BadLabel (.cons T.c_BadGoal T.xi_BadGoal (.cons T.c_BadWhen T.xi_BadWhen (.cons T.c_BadMend T.xi_BadMend (.cons T.c_NoDoor T.xi_NoDoor (.cons T.c_BadName T.xi_BadName (.cons T.c_UnlikeFaces T.xi_UnlikeFaces (.cons T.c_Busy T.xi_Busy (.cons T.c_NotAsked T.xi_NotAsked (.cons T.c_Shut T.xi_Shut (.cons T.c_HandedcopiesError T.xi_HandedcopiesError (.nil)))))))))))))))))))))) T.kx_NoDoor
theorem kq_NotAsked (T : Txt K mg A) : ∀ q ∈ TI_NotAsked, ∀ C, mg q.1 = some (.ref C) → XIs K C ∧ PySem.W.kitOne K (.ref C) (.ref A.c_NotAsked) = some q.2 := kits_of (.cons T.c_BadShape T.xi_BadShape (.cons T.c_BadLine T.xi_BadLine (.cons T.c_NoClass T.xi_NoClass (.cons T.c_BadField T.xi_BadField (.cons T.c_TooMany T.xi_TooMany (.cons T.c_BadRow T.xi_BadRow (.cons T.c_BadMethod T.xi_BadMethod (.cons T.c_BadDeed T.xi_BadDeed (.cons T.c_BadPlace T.xi_BadPlace (.cons T.c_BadWorld T.xi_BadWorld (.cons T.c_BadLabel T.xi_BadLabel (.cons T.c_BadGoal T.xi_BadGoal (.cons T.c_BadWhen T.xi_BadWhen (.cons T.c_BadMend T.xi_BadMend (.cons T.c_NoDoor T.xi_NoDoor (.cons T.c_BadName T.xi_BadName (.cons T.c_UnlikeFaces T.xi_UnlikeFaces (.cons T.c_Busy T.xi_Busy (.cons T.c_NotAsked T.xi_NotAsked (.cons T.c_Shut T.xi_Shut (.cons T.c_HandedcopiesError T.xi_HandedcopiesError (.nil)))))))))))))))))))))) T.kx_NotAsked
theorem kq_RuntimeError (T : Txt K mg A) : ∀ q ∈ TI_RuntimeError, ∀ C, mg q.1 = some (.ref C) → XIs K C ∧ PySem.W.kitOne K (.ref C) (.type "RuntimeError") = some q.2 := kits_of (.cons T.c_BadShape T.xi_BadShape (.cons T.c_BadLine T.xi_BadLine (.cons T.c_NoClass T.xi_NoClass (.cons T.c_BadField T.xi_BadField (.cons T.c_TooMany T.xi_TooMany (.cons T.c_BadRow T.xi_BadRow (.cons T.c_BadMethod T.xi_BadMethod (.cons T.c_BadDeed T.xi_BadDeed (.cons T.c_BadPlace T.xi_BadPlace (.cons T.c_BadWorld T.xi_BadWorld (.cons T.c_BadLabel T.xi_BadLabel (.cons T.c_BadGoal T.xi_BadGoal (.cons T.c_BadWhen T.xi_BadWhen (.cons T.c_BadMend T.xi_BadMend (.cons T.c_NoDoor T.xi_NoDoor (.cons T.c_BadName T.xi_BadName (.cons T.c_UnlikeFaces T.xi_UnlikeFaces (.cons T.c_Busy T.xi_Busy (.cons T.c_NotAsked T.xi_NotAsked (.cons T.c_Shut T.xi_Shut (.cons T.c_HandedcopiesError T.xi_HandedcopiesError (.nil)))))))))))))))))))))) T.kx_RuntimeError
theorem kq_Shut (T : Txt K mg A) : ∀ q ∈ TI_Shut, ∀ C, mg q.1 = some (.ref C) → XIs K C ∧ PySem.W.kitOne K (.ref C) (.ref A.c_Shut) = some q.2 := kits_of (.cons T.c_BadShape T.xi_BadShape (.cons T.c_BadLine T.xi_BadLine (.cons T.c_NoClass T.xi_NoClass (.cons T.c_BadField T.xi_BadField (.cons T.c_TooMany T.xi_TooMany (.cons T.c_BadRow T.xi_BadRow (.cons T.c_BadMethod T.xi_BadMethod (.cons T.c_BadDeed T.xi_BadDeed (.cons T.c_BadPlace T.xi_BadPlace (.cons T.c_BadWorld T.xi_BadWorld (.cons T.c_BadLabel T.xi_BadLabel (.cons T.c_BadGoal T.xi_BadGoal (.cons T.c_BadWhen T.xi_BadWhen (.cons T.c_BadMend T.xi_BadMend (.cons T.c_NoDoor T.xi_NoDoor (.cons T.c_BadName T.xi_BadName (.cons T.c_UnlikeFaces T.xi_UnlikeFaces (.cons T.c_Busy T.xi_Busy (.cons T.c_NotAsked T.xi_NotAsked (.cons T.c_Shut T.xi_Shut (.cons T.c_HandedcopiesError T.xi_HandedcopiesError (.nil)))))))))))))))))))))) T.kx_Shut
theorem kq_TooMany (T : Txt K mg A) : ∀ q ∈ TI_TooMany, ∀ C, mg q.1 = some (.ref C) → XIs K C ∧ PySem.W.kitOne K (.ref C) (.ref A.c_TooMany) = some q.2 := kits_of (.cons T.c_BadShape T.xi_BadShape (.cons T.c_BadLine T.xi_BadLine (.cons T.c_NoClass T.xi_NoClass (.cons T.c_BadField T.xi_BadField (.cons T.c_TooMany T.xi_TooMany (.cons T.c_BadRow T.xi_BadRow (.cons T.c_BadMethod T.xi_BadMethod (.cons T.c_BadDeed T.xi_BadDeed (.cons T.c_BadPlace T.xi_BadPlace (.cons T.c_BadWorld T.xi_BadWorld (.cons T.c_BadLabel T.xi_BadLabel (.cons T.c_BadGoal T.xi_BadGoal (.cons T.c_BadWhen T.xi_BadWhen (.cons T.c_BadMend T.xi_BadMend (.cons T.c_NoDoor T.xi_NoDoor (.cons T.c_BadName T.xi_BadName (.cons T.c_UnlikeFaces T.xi_UnlikeFaces (.cons T.c_Busy T.xi_Busy (.cons T.c_NotAsked T.xi_NotAsked (.cons T.c_Shut T.xi_Shut (.cons T.c_HandedcopiesError T.xi_HandedcopiesError (.nil)))))))))))))))))))))) T.kx_TooMany
theorem kq_UnlikeFaces (T : Txt K mg A) : ∀ q ∈ TI_UnlikeFaces, ∀ C, mg q.1 = some (.ref C) → XIs K C ∧ PySem.W.kitOne K (.ref C) (.ref A.c_UnlikeFaces) = some q.2 := kits_of (.cons T.c_BadShape T.xi_BadShape (.cons T.c_BadLine T.xi_BadLine (.cons T.c_NoClass T.xi_NoClass (.cons T.c_BadField T.xi_BadField (.cons T.c_TooMany T.xi_TooMany (.cons T.c_BadRow T.xi_BadRow (.cons T.c_BadMethod T.xi_BadMethod (.cons T.c_BadDeed T.xi_BadDeed (.cons T.c_BadPlace T.xi_BadPlace (.cons T.c_BadWorld T.xi_BadWorld (.cons T.c_BadLabel T.xi_BadLabel (.cons T.c_BadGoal T.xi_BadGoal (.cons T.c_BadWhen T.xi_BadWhen (.cons T.c_BadMend T.xi_BadMend (.cons T.c_NoDoor T.xi_NoDoor (.cons T.c_BadName T.xi_BadName (.cons T.c_UnlikeFaces T.xi_UnlikeFaces (.cons T.c_Busy T.xi_Busy (.cons T.c_NotAsked T.xi_NotAsked (.cons T.c_Shut T.xi_Shut (.cons T.c_HandedcopiesError T.xi_HandedcopiesError (.nil)))))))))))))))))))))) T.kx_UnlikeFaces
theorem kq_ValueError (T : Txt K mg A) : ∀ q ∈ TI_ValueError, ∀ C, mg q.1 = some (.ref C) → XIs K C ∧ PySem.W.kitOne K (.ref C) (.type "ValueError") = some q.2 := kits_of (.cons T.c_BadShape T.xi_BadShape (.cons T.c_BadLine T.xi_BadLine (.cons T.c_NoClass T.xi_NoClass (.cons T.c_BadField T.xi_BadField (.cons T.c_TooMany T.xi_TooMany (.cons T.c_BadRow T.xi_BadRow (.cons T.c_BadMethod T.xi_BadMethod (.cons T.c_BadDeed T.xi_BadDeed (.cons T.c_BadPlace T.xi_BadPlace (.cons T.c_BadWorld T.xi_BadWorld (.cons T.c_BadLabel T.xi_BadLabel (.cons T.c_BadGoal T.xi_BadGoal (.cons T.c_BadWhen T.xi_BadWhen (.cons T.c_BadMend T.xi_BadMend (.cons T.c_NoDoor T.xi_NoDoor (.cons T.c_BadName T.xi_BadName (.cons T.c_UnlikeFaces T.xi_UnlikeFaces (.cons T.c_Busy T.xi_Busy (.cons T.c_NotAsked T.xi_NotAsked (.cons T.c_Shut T.xi_Shut (.cons T.c_HandedcopiesError T.xi_HandedcopiesError (.nil)))))))))))))))))))))) T.kx_ValueError
theorem d__law_start (T : Txt K mg A) (G : Fns P w K mg base A k Γ) (cdv : Value) (B : Around) (outer : List PySem.Env) (s : Shared) (H : Hp) (E : XK) (hr2 : Room (k + 2) (B.deeper (PyProof.Rows.envOfC "_law_start" (defScope s__law_start) s.heap.objs.size A.a__law_start cdv))) :
    SSs (cxOf (L2.CX P w) P w K mg base N__law_start "_law_start" (defScope s__law_start) A.a__law_start cdv B outer s H E) (WD E) Γ (defBody s__law_start) sem__law_start := by
  have tk : Takes (cxOf (L2.CX P w) P w K mg base N__law_start "_law_start" (defScope s__law_start) A.a__law_start cdv B outer s H E) (WD E) := takes_of rfl rfl rfl rfl
  have hu := hr2.units
  have hw := hr2.units1
  have hr1 := hr2.mono (Nat.le_succ (k + 1))
  have hr0 := hr1.mono (Nat.le_succ k)
  have hN := sc__law_start.nd
  exact (by exact ss_cons (by exact (ss_setLc (i := 1) (own := [("_law_cell", 4)]) (by rfl) (by exact hN) (by exact (si_list (by exact (se_slice (by exact (se_var 0)) so_none (by exact (so_some se_int)))))) (by exact blkOk_by (N := N__law_start) (sc := defScope s__law_start) (own := [("_law_cell", 4)]) (by decide +kernel)) (by exact blk_of (fun s H C cl fp => (by exact (sg_name (i := 4) (by exact hN)))) (fun s H C cl fp => sts_nil) (fun s H C cl fp => (by exact (se_int' (by exact T.b_int) (by exact sa_cons (by exact (se_var 4)) sa_nil))))) (by rfl))) (by exact ss_cons (by exact (ss_setLcM (i := 2) (own := [("_law_cell", 4)]) (by rfl) (by exact hN) (by exact (si_list (by exact (se_var 1)))) (by exact blkOk_by (N := N__law_start) (sc := defScope s__law_start) (own := [("_law_cell", 4)]) (by decide +kernel)) (by exact blk_of (fun s H C cl fp => (by exact (sg_name (i := 4) (by exact hN)))) (fun s H C cl fp => (by exact sts_one (by exact (st_ge (by exact (se_abs (by exact T.b_abs) (by exact sa_cons (by exact (se_var 4)) sa_nil))) (by exact (se_pow se_int se_int)))))) (fun s H C cl fp => (by exact (se_abs (by exact T.b_abs) (by exact sa_cons (by exact (se_var 4)) sa_nil))))) (by rfl))) (by exact ss_cons (by exact (ss_setLc (i := 3) (own := [("_law_cell", 4)]) (by rfl) (by exact hN) (by exact (si_list (by exact (se_var 1)))) (by exact blkOk_by (N := N__law_start) (sc := defScope s__law_start) (own := [("_law_cell", 4)]) (by decide +kernel)) (by exact blk_of (fun s H C cl fp => (by exact (sg_name (i := 4) (by exact hN)))) (fun s H C cl fp => (by exact sts_one (by exact (st_lt (by exact (se_abs (by exact T.b_abs) (by exact sa_cons (by exact (se_var 4)) sa_nil))) (by exact (se_pow se_int se_int)))))) (fun s H C cl fp => (by exact (se_add (by exact (se_mod (by exact (se_int' (by exact T.b_int) (by exact sa_cons (by exact (se_var 4)) sa_nil))) se_int)) se_int)))) (by rfl))) (by exact ss_one (by exact (ss_ret (by exact (se_lstM (by exact sa_cons (by exact (se_var 2)) (by exact sa_cons (by exact (se_var 3)) (by exact sa_cons se_int (by exact sa_cons (by exact (se_add se_int (by exact (se_len (by exact T.b_len) (by exact sa_cons (by exact (se_var 1)) sa_nil))))) sa_nil))))))))))))
theorem d__law_draw (T : Txt K mg A) (G : Fns P w K mg base A k Γ) (cdv : Value) (B : Around) (outer : List PySem.Env) (s : Shared) (H : Hp) (E : XK) (hr2 : Room (k + 2) (B.deeper (PyProof.Rows.envOfC "_law_draw" (defScope s__law_draw) s.heap.objs.size A.a__law_draw cdv))) :
    SSs (cxOf (L2.CX P w) P w K mg base N__law_draw "_law_draw" (defScope s__law_draw) A.a__law_draw cdv B outer s H E) (WD E) Γ (defBody s__law_draw) sem__law_draw := by
  have tk : Takes (cxOf (L2.CX P w) P w K mg base N__law_draw "_law_draw" (defScope s__law_draw) A.a__law_draw cdv B outer s H E) (WD E) := takes_of rfl rfl rfl rfl
  have hu := hr2.units
  have hw := hr2.units1
  have hr1 := hr2.mono (Nat.le_succ (k + 1))
  have hr0 := hr1.mono (Nat.le_succ k)
  have hN := sc__law_draw.nd
  exact (by exact ss_cons (by exact (ss_par (i := 2) (j := 3) (by rfl) (by exact hN) (by decide) (by exact sa_cons (by exact (se_item (by exact (se_var 0)) se_int)) (by exact sa_cons (by exact (se_item (by exact (se_var 0)) se_int)) sa_nil)))) (by exact ss_cons (by exact (ss_augIx (by exact (se_var 0)) se_int se_int)) (by exact ss_cons (by exact (ss_if (by exact (SW.st (by exact sw_and (by exact (st_truth (by exact (se_var 2)))) (by exact sw_and1 (by exact (st_eq (by exact hu) (by exact (se_item (by exact (se_var 2)) se_int)) se_int)))))) (by exact ss_one (by exact (ss_expr (by exact (se_popAt (by exact (se_var 2)) se_int))))) ss_nil)) (by exact ss_cons (by exact (ss_if (by exact (st_truth (by exact (se_var 2)))) (by exact ss_cons (by exact (ss_asg (ws := [4]) (by exact (se_mod (by exact (se_int' (by exact T.b_int) (by exact sa_cons (by exact (se_item (by exact (se_var 2)) se_int)) sa_nil))) (by exact (se_var 1)))) (by exact (sg_name (i := 4) (by exact hN))))) (by exact ss_cons (by exact (ss_setIx (by exact (se_var 2)) se_int (by exact (se_div (by exact (se_item (by exact (se_var 2)) se_int)) (by exact (se_var 1)))))) (by exact ss_one (by exact (ss_ret (by exact (se_var 4))))))) ss_nil)) (by exact ss_cons (by exact (ss_asg (ws := [5]) (by exact (se_if (by exact (st_truth (by exact (se_var 3)))) (by exact (se_item (by exact (se_var 3)) (by exact (se_mod (by exact (se_int' (by exact T.b_int) (by exact sa_cons (by exact (se_item (by exact (se_var 0)) se_int)) sa_nil))) (by exact (se_len (by exact T.b_len) (by exact sa_cons (by exact (se_var 3)) sa_nil))))))) se_int)) (by exact (sg_name (i := 5) (by exact hN))))) (by exact ss_cons (by exact (ss_setIx (by exact (se_var 0)) se_int (by exact (se_mod (by exact (se_int' (by exact T.b_int) (by exact sa_cons (by exact (se_add (by exact (se_add (by exact (se_add (by exact (se_mul (by exact (se_item (by exact (se_var 0)) se_int)) se_int)) (by exact (se_mul (by exact (se_var 5)) se_int)))) (by exact (se_mul (by exact (se_item (by exact (se_var 0)) se_int)) se_int)))) se_int)) sa_nil))) se_int)))) (by exact ss_cons (by exact (ss_asg (ws := [6]) (by exact (se_mod (by exact (se_int' (by exact T.b_int) (by exact sa_cons (by exact (se_add (by exact (se_mul (by exact (se_item (by exact (se_var 0)) se_int)) (by exact (se_item (by exact (se_var 0)) se_int)))) (by exact (se_mul se_int (by exact (se_item (by exact (se_var 0)) se_int)))))) sa_nil))) se_int)) (by exact (sg_name (i := 6) (by exact hN))))) (by exact ss_one (by exact (ss_ret (by exact (se_mod (by exact (se_int' (by exact T.b_int) (by exact sa_cons (by exact (se_div (by exact (se_var 6)) se_int)) sa_nil))) (by exact (se_var 1))))))))))))))
theorem d__law_of (T : Txt K mg A) (G : Fns P w K mg base A k Γ) (cdv : Value) (B : Around) (outer : List PySem.Env) (s : Shared) (H : Hp) (E : XK) (hr2 : Room (k + 2) (B.deeper (PyProof.Rows.envOfC "_law_of" (defScope s__law_of) s.heap.objs.size A.a__law_of cdv))) :
    SSs (cxOf (L2.CX P w) P w K mg base N__law_of "_law_of" (defScope s__law_of) A.a__law_of cdv B outer s H E) (WD E) Γ (defBody s__law_of) sem__law_of := by
  have tk : Takes (cxOf (L2.CX P w) P w K mg base N__law_of "_law_of" (defScope s__law_of) A.a__law_of cdv B outer s H E) (WD E) := takes_of rfl rfl rfl rfl
  have hu := hr2.units
  have hw := hr2.units1
  have hr1 := hr2.mono (Nat.le_succ (k + 1))
  have hr0 := hr1.mono (Nat.le_succ k)
  have hN := sc__law_of.nd
  exact (by exact ss_one (by exact (ss_ret (by exact (se_item (by exact (se_var 1)) (by exact (se_call (by exact G.f__law_draw) (by exact T.m__law_draw) (by exact hr0) (by exact tk) (by exact sa_cons (by exact (se_var 0)) (by exact sa_cons (by exact (se_len (by exact T.b_len) (by exact sa_cons (by exact (se_var 1)) sa_nil))) sa_nil)) (an_cons (an_cons an_nil)))))))))
theorem d__law_value (T : Txt K mg A) (G : Fns P w K mg base A k Γ) (cdv : Value) (B : Around) (outer : List PySem.Env) (s : Shared) (H : Hp) (E : XK) (hr2 : Room (k + 2) (B.deeper (PyProof.Rows.envOfC "_law_value" (defScope s__law_value) s.heap.objs.size A.a__law_value cdv))) :
    SSs (cxOf (L2.CX P w) P w K mg base N__law_value "_law_value" (defScope s__law_value) A.a__law_value cdv B outer s H E) (WD E) Γ (defBody s__law_value) sem__law_value := by
  have tk : Takes (cxOf (L2.CX P w) P w K mg base N__law_value "_law_value" (defScope s__law_value) A.a__law_value cdv B outer s H E) (WD E) := takes_of rfl rfl rfl rfl
  have hu := hr2.units
  have hw := hr2.units1
  have hr1 := hr2.mono (Nat.le_succ (k + 1))
  have hr0 := hr1.mono (Nat.le_succ k)
  have hN := sc__law_value.nd
  exact (by exact ss_cons (by exact (ss_asg (ws := [1]) (by exact (se_sub (by exact (se_call (by exact G.f__law_draw) (by exact T.m__law_draw) (by exact hr0) (by exact tk) (by exact sa_cons (by exact (se_var 0)) (by exact sa_cons (by exact (se_pow se_int se_int)) sa_nil)) (an_cons (an_cons an_nil)))) (by exact (se_call (by exact G.f__law_draw) (by exact T.m__law_draw) (by exact hr0) (by exact tk) (by exact sa_cons (by exact (se_var 0)) (by exact sa_cons se_int sa_nil)) (an_cons (an_cons an_nil)))))) (by exact (sg_name (i := 1) (by exact hN))))) (by exact ss_cons (by exact (ss_asg (ws := [2]) (by exact (se_join se_str (by exact (se_lc (own := [("_law_turn", 4)]) (by rfl) (by exact hN) (by exact (si_range1 (by exact T.b_range) (by exact sa_cons (by exact (se_call (by exact G.f__law_draw) (by exact T.m__law_draw) (by exact hr0) (by exact tk) (by exact sa_cons (by exact (se_var 0)) (by exact sa_cons se_int sa_nil)) (an_cons (an_cons an_nil)))) sa_nil))) (by exact blkOk_by (N := N__law_value) (sc := defScope s__law_value) (own := [("_law_turn", 4)]) (by decide +kernel)) (by exact blk_of (fun s H C cl fp => (by exact (sg_name (i := 4) (by exact hN)))) (fun s H C cl fp => sts_nil) (fun s H C cl fp => (by exact (se_call (by exact G.f__law_of) (by exact T.m__law_of) (by exact hr0) (by exact takes0) (by exact sa_cons (by exact (se_var 0)) (by exact sa_cons (by exact (se_listS (by rfl) (by exact T.b_list) (by exact sa_cons se_str sa_nil))) sa_nil)) (an_cons (an_cons an_nil)))))))))) (by exact (sg_name (i := 2) (by exact hN))))) (by exact ss_cons (by exact (ss_asg (ws := [3]) (by exact (se_lst (by exact sa_cons (by exact (se_var 1)) (by exact sa_cons (by exact (se_var 2)) (by exact sa_cons (by exact (se_tup (by exact sa_cons (by exact (se_var 1)) (by exact sa_cons (by exact (se_var 2)) sa_nil)))) (by exact sa_cons (by exact (se_lst (by exact sa_cons (by exact (se_var 2)) (by exact sa_cons se_non sa_nil)))) (by exact sa_cons se_non (by exact sa_cons se_bl (by exact sa_cons se_bl (by exact sa_cons (by exact (se_tup sa_nil)) (by exact sa_cons (by exact (se_neg se_int)) (by exact sa_cons (by exact (se_add se_str (by exact (se_var 2)))) sa_nil)))))))))))) (by exact (sg_name (i := 3) (by exact hN))))) (by exact ss_one (by exact (ss_ret (by exact (se_call (by exact G.f__law_of) (by exact T.m__law_of) (by exact hr0) (by exact tk) (by exact sa_cons (by exact (se_var 0)) (by exact sa_cons (by exact (se_var 3)) sa_nil)) (an_cons (an_cons an_nil))))))))))
theorem d__law_fields_stand (T : Txt K mg A) (G : Fns P w K mg base A k Γ) (cdv : Value) (B : Around) (outer : List PySem.Env) (s : Shared) (H : Hp) (E : XK) (hr2 : Room (k + 2) (B.deeper (PyProof.Rows.envOfC "_law_fields_stand" (defScope s__law_fields_stand) s.heap.objs.size A.a__law_fields_stand cdv))) :
    SSs (cxOf (L2.CX P w) P w K mg base N__law_fields_stand "_law_fields_stand" (defScope s__law_fields_stand) A.a__law_fields_stand cdv B outer s H E) (WD E) Γ (defBody s__law_fields_stand) sem__law_fields_stand := by
  have tk : Takes (cxOf (L2.CX P w) P w K mg base N__law_fields_stand "_law_fields_stand" (defScope s__law_fields_stand) A.a__law_fields_stand cdv B outer s H E) (WD E) := takes_of rfl rfl rfl rfl
  have hu := hr2.units
  have hw := hr2.units1
  have hr1 := hr2.mono (Nat.le_succ (k + 1))
  have hr0 := hr1.mono (Nat.le_succ k)
  have hN := sc__law_fields_stand.nd
  exact (by exact ss_cons (by exact (ss_asg (ws := [3]) (by exact (se_err ((xe_BadRow) T k) (by exact hr2) (by exact sa_cons (by exact (se_var 0)) (by exact sa_cons (by exact (se_var 1)) (by exact sa_cons (by exact (se_var 2)) sa_nil))))) (by exact (sg_name (i := 3) (by exact hN))))) (by exact ss_cons (by exact (ss_asg (ws := [4]) (by exact (se_err ((xe_BadMethod) T k) (by exact hr2) (by exact sa_cons (by exact (se_var 1)) (by exact sa_cons (by exact (se_var 2)) sa_nil)))) (by exact (sg_name (i := 4) (by exact hN))))) (by exact ss_cons (by exact (ss_if (by exact (SW.st (by exact sw_or (by exact (st_ne (by exact hu) (by exact (se_lst (by exact sa_cons (by exact (se_errF (ef_one (by exact T.c_BadRow) (by exact T.xq_BadRow) (by decide)) (by exact (se_var 3)))) (by exact sa_cons (by exact (se_errF (ef_one (by exact T.c_BadRow) (by exact T.xq_BadRow) (by decide)) (by exact (se_var 3)))) (by exact sa_cons (by exact (se_errF (ef_one (by exact T.c_BadRow) (by exact T.xq_BadRow) (by decide)) (by exact (se_var 3)))) sa_nil))))) (by exact (se_lst (by exact sa_cons (by exact (se_var 0)) (by exact sa_cons (by exact (se_var 1)) (by exact sa_cons (by exact (se_var 2)) sa_nil))))))) (by exact sw_or1 (by exact (st_ne (by exact hu) (by exact (se_lst (by exact sa_cons (by exact (se_errF (ef_one (by exact T.c_BadMethod) (by exact T.xq_BadMethod) (by decide)) (by exact (se_var 4)))) (by exact sa_cons (by exact (se_errF (ef_one (by exact T.c_BadMethod) (by exact T.xq_BadMethod) (by decide)) (by exact (se_var 4)))) sa_nil)))) (by exact (se_lst (by exact sa_cons (by exact (se_var 1)) (by exact sa_cons (by exact (se_var 2)) sa_nil)))))))))) (by exact ss_one (by exact (ss_ret se_bl))) ss_nil)) (by exact ss_cons (by exact (ss_if (by exact (st_ne (by exact hu) (by exact (se_lst (by exact sa_cons (by exact (se_errF (ef_one (by exact T.c_BadShape) (by exact T.xq_BadShape) (by decide)) (by exact (se_err ((xe_BadShape) T k) (by exact hr2) (by exact sa_cons (by exact (se_var 0)) sa_nil))))) (by exact sa_cons (by exact (se_errF (ef_one (by exact T.c_BadLine) (by exact T.xq_BadLine) (by decide)) (by exact (se_err ((xe_BadLine) T k) (by exact hr2) (by exact sa_cons (by exact (se_var 1)) sa_nil))))) (by exact sa_cons (by exact (se_errF (ef_one (by exact T.c_NoClass) (by exact T.xq_NoClass) (by decide)) (by exact (se_err ((xe_NoClass) T k) (by exact hr2) (by exact sa_cons (by exact (se_var 2)) sa_nil))))) (by exact sa_cons (by exact (se_errF (ef_one (by exact T.c_BadField) (by exact T.xq_BadField) (by decide)) (by exact (se_err ((xe_BadField) T k) (by exact hr2) (by exact sa_cons (by exact (se_var 0)) sa_nil))))) (by exact sa_cons (by exact (se_errF (ef_one (by exact T.c_TooMany) (by exact T.xq_TooMany) (by decide)) (by exact (se_err ((xe_TooMany) T k) (by exact hr2) (by exact sa_cons (by exact (se_var 1)) sa_nil))))) sa_nil))))))) (by exact (se_lst (by exact sa_cons (by exact (se_var 0)) (by exact sa_cons (by exact (se_var 1)) (by exact sa_cons (by exact (se_var 2)) (by exact sa_cons (by exact (se_var 0)) (by exact sa_cons (by exact (se_var 1)) sa_nil))))))))) (by exact ss_one (by exact (ss_ret se_bl))) ss_nil)) (by exact ss_cons (by exact (ss_if (by exact (st_ne (by exact hu) (by exact (se_lst (by exact sa_cons (by exact (se_errF (ef_one (by exact T.c_BadDeed) (by exact T.xq_BadDeed) (by decide)) (by exact (se_err ((xe_BadDeed) T k) (by exact hr2) (by exact sa_cons (by exact (se_var 2)) sa_nil))))) (by exact sa_cons (by exact (se_errF (ef_one (by exact T.c_BadPlace) (by exact T.xq_BadPlace) (by decide)) (by exact (se_err ((xe_BadPlace) T k) (by exact hr2) (by exact sa_cons (by exact (se_var 0)) sa_nil))))) (by exact sa_cons (by exact (se_errF (ef_one (by exact T.c_BadWorld) (by exact T.xq_BadWorld) (by decide)) (by exact (se_err ((xe_BadWorld) T k) (by exact hr2) (by exact sa_cons (by exact (se_var 1)) sa_nil))))) (by exact sa_cons (by exact (se_errF (ef_one (by exact T.c_BadLabel) (by exact T.xq_BadLabel) (by decide)) (by exact (se_err ((xe_BadLabel) T k) (by exact hr2) (by exact sa_cons (by exact (se_var 2)) sa_nil))))) (by exact sa_cons (by exact (se_errF (ef_one (by exact T.c_BadGoal) (by exact T.xq_BadGoal) (by decide)) (by exact (se_err ((xe_BadGoal) T k) (by exact hr2) (by exact sa_cons (by exact (se_var 0)) sa_nil))))) sa_nil))))))) (by exact (se_lst (by exact sa_cons (by exact (se_var 2)) (by exact sa_cons (by exact (se_var 0)) (by exact sa_cons (by exact (se_var 1)) (by exact sa_cons (by exact (se_var 2)) (by exact sa_cons (by exact (se_var 0)) sa_nil))))))))) (by exact ss_one (by exact (ss_ret se_bl))) ss_nil)) (by exact ss_cons (by exact (ss_if (by exact (st_ne (by exact hu) (by exact (se_lst (by exact sa_cons (by exact (se_errF (ef_one (by exact T.c_BadWhen) (by exact T.xq_BadWhen) (by decide)) (by exact (se_err ((xe_BadWhen) T k) (by exact hr2) (by exact sa_cons (by exact (se_var 1)) sa_nil))))) (by exact sa_cons (by exact (se_errF (ef_one (by exact T.c_BadMend) (by exact T.xq_BadMend) (by decide)) (by exact (se_err ((xe_BadMend) T k) (by exact hr2) (by exact sa_cons (by exact (se_var 2)) sa_nil))))) (by exact sa_cons (by exact (se_errF (ef_one (by exact T.c_NoDoor) (by exact T.xq_NoDoor) (by decide)) (by exact (se_err ((xe_NoDoor) T k) (by exact hr2) (by exact sa_cons (by exact (se_var 0)) sa_nil))))) (by exact sa_cons (by exact (se_errF (ef_one (by exact T.c_BadName) (by exact T.xq_BadName) (by decide)) (by exact (se_err ((xe_BadName) T k) (by exact hr2) (by exact sa_cons (by exact (se_var 1)) sa_nil))))) (by exact sa_cons (by exact (se_errF (ef_one (by exact T.c_UnlikeFaces) (by exact T.xq_UnlikeFaces) (by decide)) (by exact (se_err ((xe_UnlikeFaces) T k) (by exact hr2) (by exact sa_cons (by exact (se_var 2)) sa_nil))))) sa_nil))))))) (by exact (se_lst (by exact sa_cons (by exact (se_var 1)) (by exact sa_cons (by exact (se_var 2)) (by exact sa_cons (by exact (se_var 0)) (by exact sa_cons (by exact (se_var 1)) (by exact sa_cons (by exact (se_var 2)) sa_nil))))))))) (by exact ss_one (by exact (ss_ret se_bl))) ss_nil)) (by exact ss_one (by exact (ss_ret (by exact (se_eq (by exact hu) (by exact (se_errF (ef_one (by exact T.c_Shut) (by exact T.xq_Shut) (by decide)) (by exact (se_err (xr_Shut T k) (by exact hr2) (by exact sa_cons (by exact (se_var 0)) sa_nil))))) (by exact (se_var 0)))))))))))))
theorem d__law_first (T : Txt K mg A) (G : Fns P w K mg base A k Γ) (cdv : Value) (B : Around) (outer : List PySem.Env) (s : Shared) (H : Hp) (E : XK) (hr2 : Room (k + 2) (B.deeper (PyProof.Rows.envOfC "_law_first" (defScope s__law_first) s.heap.objs.size A.a__law_first cdv))) :
    SSs (cxOf (L2.CX P w) P w K mg base N__law_first "_law_first" (defScope s__law_first) A.a__law_first cdv B outer s H E) (WD E) Γ (defBody s__law_first) sem__law_first := by
  have tk : Takes (cxOf (L2.CX P w) P w K mg base N__law_first "_law_first" (defScope s__law_first) A.a__law_first cdv B outer s H E) (WD E) := takes_of rfl rfl rfl rfl
  have hu := hr2.units
  have hw := hr2.units1
  have hr1 := hr2.mono (Nat.le_succ (k + 1))
  have hr0 := hr1.mono (Nat.le_succ k)
  have hN := sc__law_first.nd
  exact (by exact ss_one (by exact (ss_ret (by exact (se_lst (by exact sa_cons (by exact (se_errI (tb := TI_BadShape) (by exact T.b_isinstance) (.own (by exact T.c_BadShape)) (kq_BadShape T) (by exact (se_var 0)))) (by exact sa_cons (by exact (se_errI (tb := TI_BadLine) (by exact T.b_isinstance) (.own (by exact T.c_BadLine)) (kq_BadLine T) (by exact (se_var 0)))) (by exact sa_cons (by exact (se_errI (tb := TI_NoClass) (by exact T.b_isinstance) (.own (by exact T.c_NoClass)) (kq_NoClass T) (by exact (se_var 0)))) (by exact sa_cons (by exact (se_errI (tb := TI_BadField) (by exact T.b_isinstance) (.own (by exact T.c_BadField)) (kq_BadField T) (by exact (se_var 0)))) (by exact sa_cons (by exact (se_errI (tb := TI_TooMany) (by exact T.b_isinstance) (.own (by exact T.c_TooMany)) (kq_TooMany T) (by exact (se_var 0)))) (by exact sa_cons (by exact (se_errI (tb := TI_BadRow) (by exact T.b_isinstance) (.own (by exact T.c_BadRow)) (kq_BadRow T) (by exact (se_var 0)))) (by exact sa_cons (by exact (se_errI (tb := TI_BadMethod) (by exact T.b_isinstance) (.own (by exact T.c_BadMethod)) (kq_BadMethod T) (by exact (se_var 0)))) (by exact sa_cons (by exact (se_errI (tb := TI_BadDeed) (by exact T.b_isinstance) (.own (by exact T.c_BadDeed)) (kq_BadDeed T) (by exact (se_var 0)))) (by exact sa_cons (by exact (se_errI (tb := TI_BadPlace) (by exact T.b_isinstance) (.own (by exact T.c_BadPlace)) (kq_BadPlace T) (by exact (se_var 0)))) (by exact sa_cons (by exact (se_errI (tb := TI_BadWorld) (by exact T.b_isinstance) (.own (by exact T.c_BadWorld)) (kq_BadWorld T) (by exact (se_var 0)))) sa_nil)))))))))))))))
theorem d__law_second (T : Txt K mg A) (G : Fns P w K mg base A k Γ) (cdv : Value) (B : Around) (outer : List PySem.Env) (s : Shared) (H : Hp) (E : XK) (hr2 : Room (k + 2) (B.deeper (PyProof.Rows.envOfC "_law_second" (defScope s__law_second) s.heap.objs.size A.a__law_second cdv))) :
    SSs (cxOf (L2.CX P w) P w K mg base N__law_second "_law_second" (defScope s__law_second) A.a__law_second cdv B outer s H E) (WD E) Γ (defBody s__law_second) sem__law_second := by
  have tk : Takes (cxOf (L2.CX P w) P w K mg base N__law_second "_law_second" (defScope s__law_second) A.a__law_second cdv B outer s H E) (WD E) := takes_of rfl rfl rfl rfl
  have hu := hr2.units
  have hw := hr2.units1
  have hr1 := hr2.mono (Nat.le_succ (k + 1))
  have hr0 := hr1.mono (Nat.le_succ k)
  have hN := sc__law_second.nd
  exact (by exact ss_one (by exact (ss_ret (by exact (se_lst (by exact sa_cons (by exact (se_errI (tb := TI_BadLabel) (by exact T.b_isinstance) (.own (by exact T.c_BadLabel)) (kq_BadLabel T) (by exact (se_var 0)))) (by exact sa_cons (by exact (se_errI (tb := TI_BadGoal) (by exact T.b_isinstance) (.own (by exact T.c_BadGoal)) (kq_BadGoal T) (by exact (se_var 0)))) (by exact sa_cons (by exact (se_errI (tb := TI_BadWhen) (by exact T.b_isinstance) (.own (by exact T.c_BadWhen)) (kq_BadWhen T) (by exact (se_var 0)))) (by exact sa_cons (by exact (se_errI (tb := TI_BadMend) (by exact T.b_isinstance) (.own (by exact T.c_BadMend)) (kq_BadMend T) (by exact (se_var 0)))) (by exact sa_cons (by exact (se_errI (tb := TI_NoDoor) (by exact T.b_isinstance) (.own (by exact T.c_NoDoor)) (kq_NoDoor T) (by exact (se_var 0)))) (by exact sa_cons (by exact (se_errI (tb := TI_BadName) (by exact T.b_isinstance) (.own (by exact T.c_BadName)) (kq_BadName T) (by exact (se_var 0)))) (by exact sa_cons (by exact (se_errI (tb := TI_UnlikeFaces) (by exact T.b_isinstance) (.own (by exact T.c_UnlikeFaces)) (kq_UnlikeFaces T) (by exact (se_var 0)))) (by exact sa_cons (by exact (se_errI (tb := TI_Busy) (by exact T.b_isinstance) (.own (by exact T.c_Busy)) (kq_Busy T) (by exact (se_var 0)))) (by exact sa_cons (by exact (se_errI (tb := TI_NotAsked) (by exact T.b_isinstance) (.own (by exact T.c_NotAsked)) (kq_NotAsked T) (by exact (se_var 0)))) (by exact sa_cons (by exact (se_errI (tb := TI_Shut) (by exact T.b_isinstance) (.own (by exact T.c_Shut)) (kq_Shut T) (by exact (se_var 0)))) sa_nil)))))))))))))))
theorem d_law (T : Txt K mg A) (G : Fns P w K mg base A k Γ) (cdv : Value) (B : Around) (outer : List PySem.Env) (s : Shared) (H : Hp) (E : XK) (hr2 : Room (k + 2) (B.deeper (PyProof.Rows.envOfC "law" (defScope s_law) s.heap.objs.size A.a_law cdv))) :
    SSs (cxOf (L2.CX P w) P w K mg base N_law "law" (defScope s_law) A.a_law cdv B outer s H E) (WD E) Γ (defBody s_law) sem_law := by
  have tk : Takes (cxOf (L2.CX P w) P w K mg base N_law "law" (defScope s_law) A.a_law cdv B outer s H E) (WD E) := takes_of rfl rfl rfl rfl
  have hu := hr2.units
  have hw := hr2.units1
  have hr1 := hr2.mono (Nat.le_succ (k + 1))
  have hr0 := hr1.mono (Nat.le_succ k)
  have hN := sc_law.nd
  exact (by exact ss_cons (by exact (ss_asg (ws := [1]) (by exact (se_call (by exact G.f__law_start) (by exact T.m__law_start) (by exact hr0) (by exact tk) (by exact sa_cons (by exact (se_var 0)) sa_nil) (an_cons an_nil))) (by exact (sg_name (i := 1) (by exact hN))))) (by exact ss_cons (by exact (ss_for (ws := [2]) (by exact passes_of rfl) (by rfl) (by exact (si_range1 (by exact T.b_range) (by exact sa_cons se_int sa_nil))) (by exact (sg_name (i := 2) (by exact hN))) (by exact ss_cons (by exact (ss_asg (ws := [3, 4, 5]) (by exact (se_lc (own := [("_law_place", 10)]) (by rfl) (by exact hN) (by exact (si_range1 (by exact T.b_range) (by exact sa_cons se_int sa_nil))) (by exact blkOk_by (N := N_law) (sc := defScope s_law) (own := [("_law_place", 10)]) (by decide +kernel)) (by exact blk_of (fun s H C cl fp => (by exact (sg_name (i := 10) (by exact hN)))) (fun s H C cl fp => sts_nil) (fun s H C cl fp => (by exact (se_call (by exact G.f__law_value) (by exact T.m__law_value) (by exact hr0) (by exact takes0) (by exact sa_cons (by exact (se_var 1)) sa_nil) (an_cons an_nil))))))) (by exact (sg_lst (n := 3) (by rfl) (by exact sg_cons (by exact (sg_name (i := 3) (by exact hN))) (by exact sg_cons (by exact (sg_name (i := 4) (by exact hN))) (by exact sg_cons (by exact (sg_name (i := 5) (by exact hN))) sg_nil))))))) (by exact ss_cons (by exact (ss_if (by exact (st_not (by exact (st_truth (by exact (se_call (by exact G.f__law_fields_stand) (by exact T.m__law_fields_stand) (by exact hr0) (by exact tk) (by exact sa_cons (by exact (se_var 3)) (by exact sa_cons (by exact (se_var 4)) (by exact sa_cons (by exact (se_var 5)) sa_nil))) (an_cons (an_cons (an_cons an_nil))))))))) (by exact ss_one (by exact (ss_ret se_bl))) ss_nil)) (by exact ss_cons (by exact (ss_asg (ws := [6]) (by exact (se_lstM (by exact sa_cons (by exact (se_err ((xe_BadShape) T k) (by exact hr2) (by exact sa_cons (by exact (se_var 3)) sa_nil))) (by exact sa_cons (by exact (se_err ((xe_BadLine) T k) (by exact hr2) (by exact sa_cons (by exact (se_var 4)) sa_nil))) (by exact sa_cons (by exact (se_err ((xe_NoClass) T k) (by exact hr2) (by exact sa_cons (by exact (se_var 5)) sa_nil))) (by exact sa_cons (by exact (se_err ((xe_BadField) T k) (by exact hr2) (by exact sa_cons (by exact (se_var 3)) sa_nil))) (by exact sa_cons (by exact (se_err ((xe_TooMany) T k) (by exact hr2) (by exact sa_cons (by exact (se_var 4)) sa_nil))) (by exact sa_cons (by exact (se_err ((xe_BadRow) T k) (by exact hr2) (by exact sa_cons (by exact (se_var 3)) (by exact sa_cons (by exact (se_var 4)) (by exact sa_cons (by exact (se_var 5)) sa_nil))))) sa_nil)))))))) (by exact (sg_name (i := 6) (by exact hN))))) (by exact ss_cons (by exact (ss_ext (i := 6) (by exact hN) (by exact (se_lstM (by exact sa_cons (by exact (se_err ((xe_BadMethod) T k) (by exact hr2) (by exact sa_cons (by exact (se_var 4)) (by exact sa_cons (by exact (se_var 5)) sa_nil)))) (by exact sa_cons (by exact (se_err ((xe_BadDeed) T k) (by exact hr2) (by exact sa_cons (by exact (se_var 5)) sa_nil))) sa_nil)))))) (by exact ss_cons (by exact (ss_ext (i := 6) (by exact hN) (by exact (se_lstM (by exact sa_cons (by exact (se_err ((xe_BadPlace) T k) (by exact hr2) (by exact sa_cons (by exact (se_var 3)) sa_nil))) (by exact sa_cons (by exact (se_err ((xe_BadWorld) T k) (by exact hr2) (by exact sa_cons (by exact (se_var 4)) sa_nil))) (by exact sa_cons (by exact (se_err ((xe_BadLabel) T k) (by exact hr2) (by exact sa_cons (by exact (se_var 5)) sa_nil))) (by exact sa_cons (by exact (se_err ((xe_BadGoal) T k) (by exact hr2) (by exact sa_cons (by exact (se_var 3)) sa_nil))) (by exact sa_cons (by exact (se_err ((xe_BadWhen) T k) (by exact hr2) (by exact sa_cons (by exact (se_var 4)) sa_nil))) (by exact sa_cons (by exact (se_err ((xe_BadMend) T k) (by exact hr2) (by exact sa_cons (by exact (se_var 5)) sa_nil))) (by exact sa_cons (by exact (se_err ((xe_NoDoor) T k) (by exact hr2) (by exact sa_cons (by exact (se_var 3)) sa_nil))) (by exact sa_cons (by exact (se_err ((xe_BadName) T k) (by exact hr2) (by exact sa_cons (by exact (se_var 4)) sa_nil))) sa_nil)))))))))))) (by exact ss_cons (by exact (ss_ext (i := 6) (by exact hN) (by exact (se_lstM (by exact sa_cons (by exact (se_err ((xe_UnlikeFaces) T k) (by exact hr2) (by exact sa_cons (by exact (se_var 5)) sa_nil))) (by exact sa_cons (by exact (se_err0 (by exact T.pl_Busy))) (by exact sa_cons (by exact (se_err0 (by exact T.pl_NotAsked))) (by exact sa_cons (by exact (se_err (xr_Shut T k) (by exact hr2) (by exact sa_cons (by exact (se_var 3)) sa_nil))) sa_nil)))))))) (by exact ss_one (by exact (ss_for (ws := [7, 8]) (by exact passes_of rfl) (by rfl) (by exact (si_enumZ (by exact T.b_enumerate) (by exact sa_cons (by exact (se_var 6)) sa_nil))) (by exact (sg_tup (n := 2) (by rfl) (by exact sg_cons (by exact (sg_name (i := 7) (by exact hN))) (by exact sg_cons (by exact (sg_name (i := 8) (by exact hN))) sg_nil)))) (by exact ss_cons (by exact (ss_if (by exact (st_ne (by exact hu) (by exact (se_add (by exact (se_call (by exact G.f__law_first) (by exact T.m__law_first) (by exact hr0) (by exact tk) (by exact sa_cons (by exact (se_var 8)) sa_nil) (an_cons an_nil))) (by exact (se_call (by exact G.f__law_second) (by exact T.m__law_second) (by exact hr0) (by exact tk) (by exact sa_cons (by exact (se_var 8)) sa_nil) (an_cons an_nil))))) (by exact (se_lc (own := [("_law_place", 10)]) (by rfl) (by exact hN) (by exact (si_range1 (by exact T.b_range) (by exact sa_cons se_int sa_nil))) (by exact blkOk_by (N := N_law) (sc := defScope s_law) (own := [("_law_place", 10)]) (by decide +kernel)) (by exact blk_of (fun s H C cl fp => (by exact (sg_name (i := 10) (by exact hN)))) (fun s H C cl fp => sts_nil) (fun s H C cl fp => (by exact (se_eq (by exact hu) (by exact (se_var 10)) (by exact (se_var 7)))))))))) (by exact ss_one (by exact (ss_ret se_bl))) ss_nil)) (by exact ss_cons (by exact (ss_asg (ws := [9]) (by exact (se_lt (by exact (se_var 7)) se_int)) (by exact (sg_name (i := 9) (by exact hN))))) (by exact ss_cons (by exact (ss_if (by exact (SW.st (by exact sw_or (by exact (st_ne (by exact hu) (by exact (se_errI (tb := TI_HandedcopiesError) (by exact T.b_isinstance) (.own (by exact T.c_HandedcopiesError)) (kq_HandedcopiesError T) (by exact (se_var 8)))) (by exact (se_var 9)))) (by exact sw_or1 (by exact (st_ne (by exact hu) (by exact (se_errI (tb := TI_ValueError) (by exact T.b_isinstance) (.ty (T := "ValueError") (by exact T.b_ValueError) (by decide +kernel) (by decide)) (kq_ValueError T) (by exact (se_var 8)))) (by exact (se_var 9)))))))) (by exact ss_one (by exact (ss_ret se_bl))) ss_nil)) (by exact ss_one (by exact (ss_if (by exact (SW.st (by exact sw_or (by exact (st_eq (by exact hu) (by exact (se_errI (tb := TI_RuntimeError) (by exact T.b_isinstance) (.ty (T := "RuntimeError") (by exact T.b_RuntimeError) (by decide +kernel) (by decide)) (kq_RuntimeError T) (by exact (se_var 8)))) (by exact (se_var 9)))) (by exact sw_or1 (by exact (st_truth (by exact (se_errI (tb := TI_LookupError) (by exact T.b_isinstance) (.ty (T := "LookupError") (by exact T.b_LookupError) (by decide +kernel) (by decide)) (kq_LookupError T) (by exact (se_var 8)))))))))) (by exact ss_one (by exact (ss_ret se_bl))) ss_nil))))))))))))))))) (by exact ss_one (by exact (ss_ret (by exact se_and (by exact (se_errI (tb := TI_ValueError) (by exact T.b_isinstance) (.ty (T := "ValueError") (by exact T.b_ValueError) (by decide +kernel) (by decide)) (kq_ValueError T) (by exact (se_err1 (by exact T.pl_HandedcopiesError))))) (by exact se_one (by exact (se_not (by exact (se_errI (tb := TI_BadLine) (by exact T.b_isinstance) (.own (by exact T.c_BadLine)) (kq_BadLine T) (by exact (se_err1 (by exact T.pl_HandedcopiesError))))))))))))))
theorem all_fns (T : Txt K mg A) : ∀ k, Fns P w K mg base A (3 * k) (lev tbl k)
  | 0 => ⟨fn_stB T.u__law_start, fn_stB T.u__law_draw, fn_stB T.u__law_of, fn_stB T.u__law_value, fn_stB T.u__law_fields_stand, fn_stB T.u__law_first, fn_stB T.u__law_second, fn_stB T.u_law⟩
  | k + 1 => ⟨fn_okB T.u__law_start sc__law_start (d__law_start T (all_fns T k)), fn_okB T.u__law_draw sc__law_draw (d__law_draw T (all_fns T k)), fn_okB T.u__law_of sc__law_of (d__law_of T (all_fns T k)), fn_okB T.u__law_value sc__law_value (d__law_value T (all_fns T k)), fn_okB T.u__law_fields_stand sc__law_fields_stand (d__law_fields_stand T (all_fns T k)), fn_okB T.u__law_first sc__law_first (d__law_first T (all_fns T k)), fn_okB T.u__law_second sc__law_second (d__law_second T (all_fns T k)), fn_okB T.u_law sc_law (d_law T (all_fns T k))⟩
end
end K12
set_option pp.maxSteps 40
set_option maxRecDepth 100000
set_option maxHeartbeats 4000000
namespace K12
open PySem L2 MP
theorem all_mk {K : PySem.W.Frag} {h : Heap} {mg : Str → Option Value} {a__law_start a__law_draw a__law_of a__law_value a__law_fields_stand a__law_first a__law_second a_law a_BadShape___init__ a_BadLine___init__ a_NoClass___init__ a_BadField___init__ a_TooMany___init__ a_BadRow___init__ a_BadMethod___init__ a_BadDeed___init__ a_BadPlace___init__ a_BadWorld___init__ a_BadLabel___init__ a_BadGoal___init__ a_BadWhen___init__ a_BadMend___init__ a_NoDoor___init__ a_BadName___init__ a_UnlikeFaces___init__ a_Shut___init__ c_BadDeed c_BadField c_BadGoal c_BadLabel c_BadLine c_BadMend c_BadMethod c_BadName c_BadPlace c_BadRow c_BadShape c_BadWhen c_BadWorld c_Busy c_HandedcopiesError c_NoClass c_NoDoor c_NotAsked c_Shut c_TooMany c_UnlikeFaces : Addr} (X : K.In h) (G : h.Ns mainGlobals mg)
    {od__law_start an__law_start od__law_draw an__law_draw od__law_of an__law_of od__law_value an__law_value od__law_fields_stand an__law_fields_stand od__law_first an__law_first od__law_second an__law_second od_law an_law od_BadShape___init__ an_BadShape___init__ od_BadLine___init__ an_BadLine___init__ od_NoClass___init__ an_NoClass___init__ od_BadField___init__ an_BadField___init__ od_TooMany___init__ an_TooMany___init__ od_BadRow___init__ an_BadRow___init__ od_BadMethod___init__ an_BadMethod___init__ od_BadDeed___init__ an_BadDeed___init__ od_BadPlace___init__ an_BadPlace___init__ od_BadWorld___init__ an_BadWorld___init__ od_BadLabel___init__ an_BadLabel___init__ od_BadGoal___init__ an_BadGoal___init__ od_BadWhen___init__ an_BadWhen___init__ od_BadMend___init__ an_BadMend___init__ od_NoDoor___init__ an_NoDoor___init__ od_BadName___init__ an_BadName___init__ od_UnlikeFaces___init__ an_UnlikeFaces___init__ od_Shut___init__ an_Shut___init__ : Option Addr} {sl__law_start sl__law_draw sl__law_of sl__law_value sl__law_fields_stand sl__law_first sl__law_second sl_law sl_BadShape___init__ sl_BadLine___init__ sl_NoClass___init__ sl_BadField___init__ sl_TooMany___init__ sl_BadRow___init__ sl_BadMethod___init__ sl_BadDeed___init__ sl_BadPlace___init__ sl_BadWorld___init__ sl_BadLabel___init__ sl_BadGoal___init__ sl_BadWhen___init__ sl_BadMend___init__ sl_NoDoor___init__ sl_BadName___init__ sl_UnlikeFaces___init__ sl_Shut___init__ : Array (Option Value)} {oc__law_start kV__law_start dc__law_start pm__law_start cd__law_start ct__law_start oc__law_draw kV__law_draw dc__law_draw pm__law_draw cd__law_draw ct__law_draw oc__law_of kV__law_of dc__law_of pm__law_of cd__law_of ct__law_of oc__law_value kV__law_value dc__law_value pm__law_value cd__law_value ct__law_value oc__law_fields_stand kV__law_fields_stand dc__law_fields_stand pm__law_fields_stand cd__law_fields_stand ct__law_fields_stand oc__law_first kV__law_first dc__law_first pm__law_first cd__law_first ct__law_first oc__law_second kV__law_second dc__law_second pm__law_second cd__law_second ct__law_second oc_law kV_law dc_law pm_law cd_law ct_law oc_BadShape___init__ kV_BadShape___init__ dc_BadShape___init__ pm_BadShape___init__ cd_BadShape___init__ ct_BadShape___init__ oc_BadLine___init__ kV_BadLine___init__ dc_BadLine___init__ pm_BadLine___init__ cd_BadLine___init__ ct_BadLine___init__ oc_NoClass___init__ kV_NoClass___init__ dc_NoClass___init__ pm_NoClass___init__ cd_NoClass___init__ ct_NoClass___init__ oc_BadField___init__ kV_BadField___init__ dc_BadField___init__ pm_BadField___init__ cd_BadField___init__ ct_BadField___init__ oc_TooMany___init__ kV_TooMany___init__ dc_TooMany___init__ pm_TooMany___init__ cd_TooMany___init__ ct_TooMany___init__ oc_BadRow___init__ kV_BadRow___init__ dc_BadRow___init__ pm_BadRow___init__ cd_BadRow___init__ ct_BadRow___init__ oc_BadMethod___init__ kV_BadMethod___init__ dc_BadMethod___init__ pm_BadMethod___init__ cd_BadMethod___init__ ct_BadMethod___init__ oc_BadDeed___init__ kV_BadDeed___init__ dc_BadDeed___init__ pm_BadDeed___init__ cd_BadDeed___init__ ct_BadDeed___init__ oc_BadPlace___init__ kV_BadPlace___init__ dc_BadPlace___init__ pm_BadPlace___init__ cd_BadPlace___init__ ct_BadPlace___init__ oc_BadWorld___init__ kV_BadWorld___init__ dc_BadWorld___init__ pm_BadWorld___init__ cd_BadWorld___init__ ct_BadWorld___init__ oc_BadLabel___init__ kV_BadLabel___init__ dc_BadLabel___init__ pm_BadLabel___init__ cd_BadLabel___init__ ct_BadLabel___init__ oc_BadGoal___init__ kV_BadGoal___init__ dc_BadGoal___init__ pm_BadGoal___init__ cd_BadGoal___init__ ct_BadGoal___init__ oc_BadWhen___init__ kV_BadWhen___init__ dc_BadWhen___init__ pm_BadWhen___init__ cd_BadWhen___init__ ct_BadWhen___init__ oc_BadMend___init__ kV_BadMend___init__ dc_BadMend___init__ pm_BadMend___init__ cd_BadMend___init__ ct_BadMend___init__ oc_NoDoor___init__ kV_NoDoor___init__ dc_NoDoor___init__ pm_NoDoor___init__ cd_NoDoor___init__ ct_NoDoor___init__ oc_BadName___init__ kV_BadName___init__ dc_BadName___init__ pm_BadName___init__ cd_BadName___init__ ct_BadName___init__ oc_UnlikeFaces___init__ kV_UnlikeFaces___init__ dc_UnlikeFaces___init__ pm_UnlikeFaces___init__ cd_UnlikeFaces___init__ ct_UnlikeFaces___init__ oc_Shut___init__ kV_Shut___init__ dc_Shut___init__ pm_Shut___init__ cd_Shut___init__ ct_Shut___init__ : Value} {nm_BadShape qn_BadShape nm_BadLine qn_BadLine nm_NoClass qn_NoClass nm_BadField qn_BadField nm_TooMany qn_TooMany nm_BadRow qn_BadRow nm_BadMethod qn_BadMethod nm_BadDeed qn_BadDeed nm_BadPlace qn_BadPlace nm_BadWorld qn_BadWorld nm_BadLabel qn_BadLabel nm_BadGoal qn_BadGoal nm_BadWhen qn_BadWhen nm_BadMend qn_BadMend nm_NoDoor qn_NoDoor nm_BadName qn_BadName nm_UnlikeFaces qn_UnlikeFaces nm_Shut qn_Shut : Str} {Na_BadShape Na_BadLine Na_NoClass Na_BadField Na_TooMany Na_BadRow Na_BadMethod Na_BadDeed Na_BadPlace Na_BadWorld Na_BadLabel Na_BadGoal Na_BadWhen Na_BadMend Na_NoDoor Na_BadName Na_UnlikeFaces Na_Shut : Addr} {bs_BadShape sb_BadShape bs_BadLine sb_BadLine bs_NoClass sb_NoClass bs_BadField sb_BadField bs_TooMany sb_TooMany bs_BadRow sb_BadRow bs_BadMethod sb_BadMethod bs_BadDeed sb_BadDeed bs_BadPlace sb_BadPlace bs_BadWorld sb_BadWorld bs_BadLabel sb_BadLabel bs_BadGoal sb_BadGoal bs_BadWhen sb_BadWhen bs_BadMend sb_BadMend bs_NoDoor sb_NoDoor bs_BadName sb_BadName bs_UnlikeFaces sb_UnlikeFaces bs_Shut sb_Shut : List Value} {sn_BadShape sn_BadLine sn_NoClass sn_BadField sn_TooMany sn_BadRow sn_BadMethod sn_BadDeed sn_BadPlace sn_BadWorld sn_BadLabel sn_BadGoal sn_BadWhen sn_BadMend sn_NoDoor sn_BadName sn_UnlikeFaces sn_Shut : List Str} {ab_BadShape ab_BadLine ab_NoClass ab_BadField ab_TooMany ab_BadRow ab_BadMethod ab_BadDeed ab_BadPlace ab_BadWorld ab_BadLabel ab_BadGoal ab_BadWhen ab_BadMend ab_NoDoor ab_BadName ab_UnlikeFaces ab_Shut : Bool} {co_BadShape co_BadLine co_NoClass co_BadField co_TooMany co_BadRow co_BadMethod co_BadDeed co_BadPlace co_BadWorld co_BadLabel co_BadGoal co_BadWhen co_BadMend co_NoDoor co_BadName co_UnlikeFaces co_Shut : Option Bool} {dd_BadShape dd_BadLine dd_NoClass dd_BadField dd_TooMany dd_BadRow dd_BadMethod dd_BadDeed dd_BadPlace dd_BadWorld dd_BadLabel dd_BadGoal dd_BadWhen dd_BadMend dd_NoDoor dd_BadName dd_UnlikeFaces dd_Shut : Option Addr} {m0_BadShape m1_BadShape m2_BadShape m3_BadShape m5_BadShape m0_BadLine m1_BadLine m2_BadLine m3_BadLine m5_BadLine m0_NoClass m1_NoClass m2_NoClass m3_NoClass m5_NoClass m0_BadField m1_BadField m2_BadField m3_BadField m5_BadField m0_TooMany m1_TooMany m2_TooMany m3_TooMany m5_TooMany m0_BadRow m1_BadRow m2_BadRow m3_BadRow m5_BadRow m0_BadMethod m1_BadMethod m2_BadMethod m3_BadMethod m5_BadMethod m0_BadDeed m1_BadDeed m2_BadDeed m3_BadDeed m5_BadDeed m0_BadPlace m1_BadPlace m2_BadPlace m3_BadPlace m5_BadPlace m0_BadWorld m1_BadWorld m2_BadWorld m3_BadWorld m5_BadWorld m0_BadLabel m1_BadLabel m2_BadLabel m3_BadLabel m5_BadLabel m0_BadGoal m1_BadGoal m2_BadGoal m3_BadGoal m5_BadGoal m0_BadWhen m1_BadWhen m2_BadWhen m3_BadWhen m5_BadWhen m0_BadMend m1_BadMend m2_BadMend m3_BadMend m5_BadMend m0_NoDoor m1_NoDoor m2_NoDoor m3_NoDoor m5_NoDoor m0_BadName m1_BadName m2_BadName m3_BadName m5_BadName m0_UnlikeFaces m1_UnlikeFaces m2_UnlikeFaces m3_UnlikeFaces m5_UnlikeFaces m0_Shut m1_Shut m2_Shut m3_Shut m5_Shut : Option Value}
    (hc_BadDeed : PySem.W.nsIn K mainGlobals "BadDeed" = some (some (.ref c_BadDeed)))
    (hc_BadField : PySem.W.nsIn K mainGlobals "BadField" = some (some (.ref c_BadField)))
    (hc_BadGoal : PySem.W.nsIn K mainGlobals "BadGoal" = some (some (.ref c_BadGoal)))
    (hc_BadLabel : PySem.W.nsIn K mainGlobals "BadLabel" = some (some (.ref c_BadLabel)))
    (hc_BadLine : PySem.W.nsIn K mainGlobals "BadLine" = some (some (.ref c_BadLine)))
    (hc_BadMend : PySem.W.nsIn K mainGlobals "BadMend" = some (some (.ref c_BadMend)))
    (hc_BadMethod : PySem.W.nsIn K mainGlobals "BadMethod" = some (some (.ref c_BadMethod)))
    (hc_BadName : PySem.W.nsIn K mainGlobals "BadName" = some (some (.ref c_BadName)))
    (hc_BadPlace : PySem.W.nsIn K mainGlobals "BadPlace" = some (some (.ref c_BadPlace)))
    (hc_BadRow : PySem.W.nsIn K mainGlobals "BadRow" = some (some (.ref c_BadRow)))
    (hc_BadShape : PySem.W.nsIn K mainGlobals "BadShape" = some (some (.ref c_BadShape)))
    (hc_BadWhen : PySem.W.nsIn K mainGlobals "BadWhen" = some (some (.ref c_BadWhen)))
    (hc_BadWorld : PySem.W.nsIn K mainGlobals "BadWorld" = some (some (.ref c_BadWorld)))
    (hc_Busy : PySem.W.nsIn K mainGlobals "Busy" = some (some (.ref c_Busy)))
    (hc_HandedcopiesError : PySem.W.nsIn K mainGlobals "HandedcopiesError" = some (some (.ref c_HandedcopiesError)))
    (hc_NoClass : PySem.W.nsIn K mainGlobals "NoClass" = some (some (.ref c_NoClass)))
    (hc_NoDoor : PySem.W.nsIn K mainGlobals "NoDoor" = some (some (.ref c_NoDoor)))
    (hc_NotAsked : PySem.W.nsIn K mainGlobals "NotAsked" = some (some (.ref c_NotAsked)))
    (hc_Shut : PySem.W.nsIn K mainGlobals "Shut" = some (some (.ref c_Shut)))
    (hc_TooMany : PySem.W.nsIn K mainGlobals "TooMany" = some (some (.ref c_TooMany)))
    (hc_UnlikeFaces : PySem.W.nsIn K mainGlobals "UnlikeFaces" = some (some (.ref c_UnlikeFaces)))
    (hf__law_start : PySem.W.nsIn K mainGlobals "_law_start" = some (some (.ref a__law_start)))
    (hi__law_start : PySem.W.isFn K (.ref a__law_start) = true)
    (hl__law_start : K.lookup a__law_start = some ⟨oc__law_start, od__law_start, .func (PySem.W.fnOf "_law_start" "_law_start" (defArgs s__law_start) (defBody s__law_start) (defScope s__law_start) .none kV__law_start dc__law_start pm__law_start an__law_start cd__law_start ct__law_start), sl__law_start⟩)
    (hd__law_start : PySem.W.codeIn K cd__law_start "_law_start" = true)
    (hk__law_start : PySem.W.keepIn K (.ref a__law_start) = true)
    (hf__law_draw : PySem.W.nsIn K mainGlobals "_law_draw" = some (some (.ref a__law_draw)))
    (hi__law_draw : PySem.W.isFn K (.ref a__law_draw) = true)
    (hl__law_draw : K.lookup a__law_draw = some ⟨oc__law_draw, od__law_draw, .func (PySem.W.fnOf "_law_draw" "_law_draw" (defArgs s__law_draw) (defBody s__law_draw) (defScope s__law_draw) .none kV__law_draw dc__law_draw pm__law_draw an__law_draw cd__law_draw ct__law_draw), sl__law_draw⟩)
    (hd__law_draw : PySem.W.codeIn K cd__law_draw "_law_draw" = true)
    (hk__law_draw : PySem.W.keepIn K (.ref a__law_draw) = true)
    (hf__law_of : PySem.W.nsIn K mainGlobals "_law_of" = some (some (.ref a__law_of)))
    (hi__law_of : PySem.W.isFn K (.ref a__law_of) = true)
    (hl__law_of : K.lookup a__law_of = some ⟨oc__law_of, od__law_of, .func (PySem.W.fnOf "_law_of" "_law_of" (defArgs s__law_of) (defBody s__law_of) (defScope s__law_of) .none kV__law_of dc__law_of pm__law_of an__law_of cd__law_of ct__law_of), sl__law_of⟩)
    (hd__law_of : PySem.W.codeIn K cd__law_of "_law_of" = true)
    (hk__law_of : PySem.W.keepIn K (.ref a__law_of) = true)
    (hf__law_value : PySem.W.nsIn K mainGlobals "_law_value" = some (some (.ref a__law_value)))
    (hi__law_value : PySem.W.isFn K (.ref a__law_value) = true)
    (hl__law_value : K.lookup a__law_value = some ⟨oc__law_value, od__law_value, .func (PySem.W.fnOf "_law_value" "_law_value" (defArgs s__law_value) (defBody s__law_value) (defScope s__law_value) .none kV__law_value dc__law_value pm__law_value an__law_value cd__law_value ct__law_value), sl__law_value⟩)
    (hd__law_value : PySem.W.codeIn K cd__law_value "_law_value" = true)
    (hk__law_value : PySem.W.keepIn K (.ref a__law_value) = true)
    (hf__law_fields_stand : PySem.W.nsIn K mainGlobals "_law_fields_stand" = some (some (.ref a__law_fields_stand)))
    (hi__law_fields_stand : PySem.W.isFn K (.ref a__law_fields_stand) = true)
    (hl__law_fields_stand : K.lookup a__law_fields_stand = some ⟨oc__law_fields_stand, od__law_fields_stand, .func (PySem.W.fnOf "_law_fields_stand" "_law_fields_stand" (defArgs s__law_fields_stand) (defBody s__law_fields_stand) (defScope s__law_fields_stand) .none kV__law_fields_stand dc__law_fields_stand pm__law_fields_stand an__law_fields_stand cd__law_fields_stand ct__law_fields_stand), sl__law_fields_stand⟩)
    (hd__law_fields_stand : PySem.W.codeIn K cd__law_fields_stand "_law_fields_stand" = true)
    (hk__law_fields_stand : PySem.W.keepIn K (.ref a__law_fields_stand) = true)
    (hf__law_first : PySem.W.nsIn K mainGlobals "_law_first" = some (some (.ref a__law_first)))
    (hi__law_first : PySem.W.isFn K (.ref a__law_first) = true)
    (hl__law_first : K.lookup a__law_first = some ⟨oc__law_first, od__law_first, .func (PySem.W.fnOf "_law_first" "_law_first" (defArgs s__law_first) (defBody s__law_first) (defScope s__law_first) .none kV__law_first dc__law_first pm__law_first an__law_first cd__law_first ct__law_first), sl__law_first⟩)
    (hd__law_first : PySem.W.codeIn K cd__law_first "_law_first" = true)
    (hk__law_first : PySem.W.keepIn K (.ref a__law_first) = true)
    (hf__law_second : PySem.W.nsIn K mainGlobals "_law_second" = some (some (.ref a__law_second)))
    (hi__law_second : PySem.W.isFn K (.ref a__law_second) = true)
    (hl__law_second : K.lookup a__law_second = some ⟨oc__law_second, od__law_second, .func (PySem.W.fnOf "_law_second" "_law_second" (defArgs s__law_second) (defBody s__law_second) (defScope s__law_second) .none kV__law_second dc__law_second pm__law_second an__law_second cd__law_second ct__law_second), sl__law_second⟩)
    (hd__law_second : PySem.W.codeIn K cd__law_second "_law_second" = true)
    (hk__law_second : PySem.W.keepIn K (.ref a__law_second) = true)
    (hf_law : PySem.W.nsIn K mainGlobals "law" = some (some (.ref a_law)))
    (hi_law : PySem.W.isFn K (.ref a_law) = true)
    (hl_law : K.lookup a_law = some ⟨oc_law, od_law, .func (PySem.W.fnOf "law" "law" (defArgs s_law) (defBody s_law) (defScope s_law) .none kV_law dc_law pm_law an_law cd_law ct_law), sl_law⟩)
    (hd_law : PySem.W.codeIn K cd_law "law" = true)
    (hk_law : PySem.W.keepIn K (.ref a_law) = true)
    (hb_LookupError : PySem.W.nsIn K mainGlobals "LookupError" = some none)
    (hb_RuntimeError : PySem.W.nsIn K mainGlobals "RuntimeError" = some none)
    (hb_ValueError : PySem.W.nsIn K mainGlobals "ValueError" = some none)
    (hb_abs : PySem.W.nsIn K mainGlobals "abs" = some none)
    (hb_enumerate : PySem.W.nsIn K mainGlobals "enumerate" = some none)
    (hb_int : PySem.W.nsIn K mainGlobals "int" = some none)
    (hb_isinstance : PySem.W.nsIn K mainGlobals "isinstance" = some none)
    (hb_len : PySem.W.nsIn K mainGlobals "len" = some none)
    (hb_list : PySem.W.nsIn K mainGlobals "list" = some none)
    (hb_range : PySem.W.nsIn K mainGlobals "range" = some none)
    (br_HandedcopiesError : PySem.W.readsIn K c_HandedcopiesError (.type "type") = true)
    (bs_HandedcopiesError : PySem.W.specialIn K (.ref c_HandedcopiesError) "__getattribute__" = some (some (.builtin "type.__getattribute__")))
    (bf_HandedcopiesError : PySem.W.findCls K (.ref c_HandedcopiesError) (.type "type") "__init__" = some (.val (.builtin "ValueError.__init__")))
    (xl_BadShape : K.lookup c_BadShape = some (PySem.excClassObj nm_BadShape qn_BadShape c_BadShape Na_BadShape bs_BadShape [.ref c_HandedcopiesError, .type "ValueError", .type "Exception", .type "BaseException", .type "object"] true sn_BadShape sb_BadShape ab_BadShape co_BadShape dd_BadShape m0_BadShape m1_BadShape m2_BadShape m3_BadShape m5_BadShape "ValueError.__new__"))
    (ke_o_BadShape : xoxB K c_BadShape = true)
    (ke_f_BadShape : xffB K c_BadShape ["text"] = true)
    (hf_BadShape___init__ : PySem.W.findIn K (.ref c_BadShape) "__init__" = some (some (.ref a_BadShape___init__)))
    (ht_BadShape___init__ : PySem.W.typeIn K (.ref a_BadShape___init__) = some (.type "function"))
    (hl_BadShape___init__ : K.lookup a_BadShape___init__ = some ⟨oc_BadShape___init__, od_BadShape___init__, .func (PySem.W.fnOf "__init__" "BadShape.__init__" (defArgs s_BadShape___init__) (defBody s_BadShape___init__) (defScope s_BadShape___init__) .none kV_BadShape___init__ dc_BadShape___init__ pm_BadShape___init__ an_BadShape___init__ cd_BadShape___init__ ct_BadShape___init__), sl_BadShape___init__⟩)
    (hd_BadShape___init__ : PySem.W.codeIn K cd_BadShape___init__ "BadShape.__init__" = true)
    (hk_BadShape___init__ : PySem.W.keepIn K (.ref a_BadShape___init__) = true)
    (hi_BadShape___init__ : PySem.W.isFn K (.ref a_BadShape___init__) = true)
    (xl_BadLine : K.lookup c_BadLine = some (PySem.excClassObj nm_BadLine qn_BadLine c_BadLine Na_BadLine bs_BadLine [.ref c_HandedcopiesError, .type "ValueError", .type "Exception", .type "BaseException", .type "object"] true sn_BadLine sb_BadLine ab_BadLine co_BadLine dd_BadLine m0_BadLine m1_BadLine m2_BadLine m3_BadLine m5_BadLine "ValueError.__new__"))
    (ke_o_BadLine : xoxB K c_BadLine = true)
    (ke_f_BadLine : xffB K c_BadLine ["at"] = true)
    (hf_BadLine___init__ : PySem.W.findIn K (.ref c_BadLine) "__init__" = some (some (.ref a_BadLine___init__)))
    (ht_BadLine___init__ : PySem.W.typeIn K (.ref a_BadLine___init__) = some (.type "function"))
    (hl_BadLine___init__ : K.lookup a_BadLine___init__ = some ⟨oc_BadLine___init__, od_BadLine___init__, .func (PySem.W.fnOf "__init__" "BadLine.__init__" (defArgs s_BadLine___init__) (defBody s_BadLine___init__) (defScope s_BadLine___init__) .none kV_BadLine___init__ dc_BadLine___init__ pm_BadLine___init__ an_BadLine___init__ cd_BadLine___init__ ct_BadLine___init__), sl_BadLine___init__⟩)
    (hd_BadLine___init__ : PySem.W.codeIn K cd_BadLine___init__ "BadLine.__init__" = true)
    (hk_BadLine___init__ : PySem.W.keepIn K (.ref a_BadLine___init__) = true)
    (hi_BadLine___init__ : PySem.W.isFn K (.ref a_BadLine___init__) = true)
    (xl_NoClass : K.lookup c_NoClass = some (PySem.excClassObj nm_NoClass qn_NoClass c_NoClass Na_NoClass bs_NoClass [.ref c_HandedcopiesError, .type "ValueError", .type "Exception", .type "BaseException", .type "object"] true sn_NoClass sb_NoClass ab_NoClass co_NoClass dd_NoClass m0_NoClass m1_NoClass m2_NoClass m3_NoClass m5_NoClass "ValueError.__new__"))
    (ke_o_NoClass : xoxB K c_NoClass = true)
    (ke_f_NoClass : xffB K c_NoClass ["name"] = true)
    (hf_NoClass___init__ : PySem.W.findIn K (.ref c_NoClass) "__init__" = some (some (.ref a_NoClass___init__)))
    (ht_NoClass___init__ : PySem.W.typeIn K (.ref a_NoClass___init__) = some (.type "function"))
    (hl_NoClass___init__ : K.lookup a_NoClass___init__ = some ⟨oc_NoClass___init__, od_NoClass___init__, .func (PySem.W.fnOf "__init__" "NoClass.__init__" (defArgs s_NoClass___init__) (defBody s_NoClass___init__) (defScope s_NoClass___init__) .none kV_NoClass___init__ dc_NoClass___init__ pm_NoClass___init__ an_NoClass___init__ cd_NoClass___init__ ct_NoClass___init__), sl_NoClass___init__⟩)
    (hd_NoClass___init__ : PySem.W.codeIn K cd_NoClass___init__ "NoClass.__init__" = true)
    (hk_NoClass___init__ : PySem.W.keepIn K (.ref a_NoClass___init__) = true)
    (hi_NoClass___init__ : PySem.W.isFn K (.ref a_NoClass___init__) = true)
    (xl_BadField : K.lookup c_BadField = some (PySem.excClassObj nm_BadField qn_BadField c_BadField Na_BadField bs_BadField [.ref c_HandedcopiesError, .type "ValueError", .type "Exception", .type "BaseException", .type "object"] true sn_BadField sb_BadField ab_BadField co_BadField dd_BadField m0_BadField m1_BadField m2_BadField m3_BadField m5_BadField "ValueError.__new__"))
    (ke_o_BadField : xoxB K c_BadField = true)
    (ke_f_BadField : xffB K c_BadField ["name"] = true)
    (hf_BadField___init__ : PySem.W.findIn K (.ref c_BadField) "__init__" = some (some (.ref a_BadField___init__)))
    (ht_BadField___init__ : PySem.W.typeIn K (.ref a_BadField___init__) = some (.type "function"))
    (hl_BadField___init__ : K.lookup a_BadField___init__ = some ⟨oc_BadField___init__, od_BadField___init__, .func (PySem.W.fnOf "__init__" "BadField.__init__" (defArgs s_BadField___init__) (defBody s_BadField___init__) (defScope s_BadField___init__) .none kV_BadField___init__ dc_BadField___init__ pm_BadField___init__ an_BadField___init__ cd_BadField___init__ ct_BadField___init__), sl_BadField___init__⟩)
    (hd_BadField___init__ : PySem.W.codeIn K cd_BadField___init__ "BadField.__init__" = true)
    (hk_BadField___init__ : PySem.W.keepIn K (.ref a_BadField___init__) = true)
    (hi_BadField___init__ : PySem.W.isFn K (.ref a_BadField___init__) = true)
    (xl_TooMany : K.lookup c_TooMany = some (PySem.excClassObj nm_TooMany qn_TooMany c_TooMany Na_TooMany bs_TooMany [.ref c_HandedcopiesError, .type "ValueError", .type "Exception", .type "BaseException", .type "object"] true sn_TooMany sb_TooMany ab_TooMany co_TooMany dd_TooMany m0_TooMany m1_TooMany m2_TooMany m3_TooMany m5_TooMany "ValueError.__new__"))
    (ke_o_TooMany : xoxB K c_TooMany = true)
    (ke_f_TooMany : xffB K c_TooMany ["what"] = true)
    (hf_TooMany___init__ : PySem.W.findIn K (.ref c_TooMany) "__init__" = some (some (.ref a_TooMany___init__)))
    (ht_TooMany___init__ : PySem.W.typeIn K (.ref a_TooMany___init__) = some (.type "function"))
    (hl_TooMany___init__ : K.lookup a_TooMany___init__ = some ⟨oc_TooMany___init__, od_TooMany___init__, .func (PySem.W.fnOf "__init__" "TooMany.__init__" (defArgs s_TooMany___init__) (defBody s_TooMany___init__) (defScope s_TooMany___init__) .none kV_TooMany___init__ dc_TooMany___init__ pm_TooMany___init__ an_TooMany___init__ cd_TooMany___init__ ct_TooMany___init__), sl_TooMany___init__⟩)
    (hd_TooMany___init__ : PySem.W.codeIn K cd_TooMany___init__ "TooMany.__init__" = true)
    (hk_TooMany___init__ : PySem.W.keepIn K (.ref a_TooMany___init__) = true)
    (hi_TooMany___init__ : PySem.W.isFn K (.ref a_TooMany___init__) = true)
    (xl_BadRow : K.lookup c_BadRow = some (PySem.excClassObj nm_BadRow qn_BadRow c_BadRow Na_BadRow bs_BadRow [.ref c_HandedcopiesError, .type "ValueError", .type "Exception", .type "BaseException", .type "object"] true sn_BadRow sb_BadRow ab_BadRow co_BadRow dd_BadRow m0_BadRow m1_BadRow m2_BadRow m3_BadRow m5_BadRow "ValueError.__new__"))
    (ke_o_BadRow : xoxB K c_BadRow = true)
    (ke_f_BadRow : xffB K c_BadRow ["owner", "method", "at"] = true)
    (hf_BadRow___init__ : PySem.W.findIn K (.ref c_BadRow) "__init__" = some (some (.ref a_BadRow___init__)))
    (ht_BadRow___init__ : PySem.W.typeIn K (.ref a_BadRow___init__) = some (.type "function"))
    (hl_BadRow___init__ : K.lookup a_BadRow___init__ = some ⟨oc_BadRow___init__, od_BadRow___init__, .func (PySem.W.fnOf "__init__" "BadRow.__init__" (defArgs s_BadRow___init__) (defBody s_BadRow___init__) (defScope s_BadRow___init__) .none kV_BadRow___init__ dc_BadRow___init__ pm_BadRow___init__ an_BadRow___init__ cd_BadRow___init__ ct_BadRow___init__), sl_BadRow___init__⟩)
    (hd_BadRow___init__ : PySem.W.codeIn K cd_BadRow___init__ "BadRow.__init__" = true)
    (hk_BadRow___init__ : PySem.W.keepIn K (.ref a_BadRow___init__) = true)
    (hi_BadRow___init__ : PySem.W.isFn K (.ref a_BadRow___init__) = true)
    (xl_BadMethod : K.lookup c_BadMethod = some (PySem.excClassObj nm_BadMethod qn_BadMethod c_BadMethod Na_BadMethod bs_BadMethod [.ref c_HandedcopiesError, .type "ValueError", .type "Exception", .type "BaseException", .type "object"] true sn_BadMethod sb_BadMethod ab_BadMethod co_BadMethod dd_BadMethod m0_BadMethod m1_BadMethod m2_BadMethod m3_BadMethod m5_BadMethod "ValueError.__new__"))
    (ke_o_BadMethod : xoxB K c_BadMethod = true)
    (ke_f_BadMethod : xffB K c_BadMethod ["owner", "method"] = true)
    (hf_BadMethod___init__ : PySem.W.findIn K (.ref c_BadMethod) "__init__" = some (some (.ref a_BadMethod___init__)))
    (ht_BadMethod___init__ : PySem.W.typeIn K (.ref a_BadMethod___init__) = some (.type "function"))
    (hl_BadMethod___init__ : K.lookup a_BadMethod___init__ = some ⟨oc_BadMethod___init__, od_BadMethod___init__, .func (PySem.W.fnOf "__init__" "BadMethod.__init__" (defArgs s_BadMethod___init__) (defBody s_BadMethod___init__) (defScope s_BadMethod___init__) .none kV_BadMethod___init__ dc_BadMethod___init__ pm_BadMethod___init__ an_BadMethod___init__ cd_BadMethod___init__ ct_BadMethod___init__), sl_BadMethod___init__⟩)
    (hd_BadMethod___init__ : PySem.W.codeIn K cd_BadMethod___init__ "BadMethod.__init__" = true)
    (hk_BadMethod___init__ : PySem.W.keepIn K (.ref a_BadMethod___init__) = true)
    (hi_BadMethod___init__ : PySem.W.isFn K (.ref a_BadMethod___init__) = true)
    (xl_BadDeed : K.lookup c_BadDeed = some (PySem.excClassObj nm_BadDeed qn_BadDeed c_BadDeed Na_BadDeed bs_BadDeed [.ref c_HandedcopiesError, .type "ValueError", .type "Exception", .type "BaseException", .type "object"] true sn_BadDeed sb_BadDeed ab_BadDeed co_BadDeed dd_BadDeed m0_BadDeed m1_BadDeed m2_BadDeed m3_BadDeed m5_BadDeed "ValueError.__new__"))
    (ke_o_BadDeed : xoxB K c_BadDeed = true)
    (ke_f_BadDeed : xffB K c_BadDeed ["deed"] = true)
    (hf_BadDeed___init__ : PySem.W.findIn K (.ref c_BadDeed) "__init__" = some (some (.ref a_BadDeed___init__)))
    (ht_BadDeed___init__ : PySem.W.typeIn K (.ref a_BadDeed___init__) = some (.type "function"))
    (hl_BadDeed___init__ : K.lookup a_BadDeed___init__ = some ⟨oc_BadDeed___init__, od_BadDeed___init__, .func (PySem.W.fnOf "__init__" "BadDeed.__init__" (defArgs s_BadDeed___init__) (defBody s_BadDeed___init__) (defScope s_BadDeed___init__) .none kV_BadDeed___init__ dc_BadDeed___init__ pm_BadDeed___init__ an_BadDeed___init__ cd_BadDeed___init__ ct_BadDeed___init__), sl_BadDeed___init__⟩)
    (hd_BadDeed___init__ : PySem.W.codeIn K cd_BadDeed___init__ "BadDeed.__init__" = true)
    (hk_BadDeed___init__ : PySem.W.keepIn K (.ref a_BadDeed___init__) = true)
    (hi_BadDeed___init__ : PySem.W.isFn K (.ref a_BadDeed___init__) = true)
    (xl_BadPlace : K.lookup c_BadPlace = some (PySem.excClassObj nm_BadPlace qn_BadPlace c_BadPlace Na_BadPlace bs_BadPlace [.ref c_HandedcopiesError, .type "ValueError", .type "Exception", .type "BaseException", .type "object"] true sn_BadPlace sb_BadPlace ab_BadPlace co_BadPlace dd_BadPlace m0_BadPlace m1_BadPlace m2_BadPlace m3_BadPlace m5_BadPlace "ValueError.__new__"))
    (ke_o_BadPlace : xoxB K c_BadPlace = true)
    (ke_f_BadPlace : xffB K c_BadPlace ["place"] = true)
    (hf_BadPlace___init__ : PySem.W.findIn K (.ref c_BadPlace) "__init__" = some (some (.ref a_BadPlace___init__)))
    (ht_BadPlace___init__ : PySem.W.typeIn K (.ref a_BadPlace___init__) = some (.type "function"))
    (hl_BadPlace___init__ : K.lookup a_BadPlace___init__ = some ⟨oc_BadPlace___init__, od_BadPlace___init__, .func (PySem.W.fnOf "__init__" "BadPlace.__init__" (defArgs s_BadPlace___init__) (defBody s_BadPlace___init__) (defScope s_BadPlace___init__) .none kV_BadPlace___init__ dc_BadPlace___init__ pm_BadPlace___init__ an_BadPlace___init__ cd_BadPlace___init__ ct_BadPlace___init__), sl_BadPlace___init__⟩)
    (hd_BadPlace___init__ : PySem.W.codeIn K cd_BadPlace___init__ "BadPlace.__init__" = true)
    (hk_BadPlace___init__ : PySem.W.keepIn K (.ref a_BadPlace___init__) = true)
    (hi_BadPlace___init__ : PySem.W.isFn K (.ref a_BadPlace___init__) = true)
    (xl_BadWorld : K.lookup c_BadWorld = some (PySem.excClassObj nm_BadWorld qn_BadWorld c_BadWorld Na_BadWorld bs_BadWorld [.ref c_HandedcopiesError, .type "ValueError", .type "Exception", .type "BaseException", .type "object"] true sn_BadWorld sb_BadWorld ab_BadWorld co_BadWorld dd_BadWorld m0_BadWorld m1_BadWorld m2_BadWorld m3_BadWorld m5_BadWorld "ValueError.__new__"))
    (ke_o_BadWorld : xoxB K c_BadWorld = true)
    (ke_f_BadWorld : xffB K c_BadWorld ["form"] = true)
    (hf_BadWorld___init__ : PySem.W.findIn K (.ref c_BadWorld) "__init__" = some (some (.ref a_BadWorld___init__)))
    (ht_BadWorld___init__ : PySem.W.typeIn K (.ref a_BadWorld___init__) = some (.type "function"))
    (hl_BadWorld___init__ : K.lookup a_BadWorld___init__ = some ⟨oc_BadWorld___init__, od_BadWorld___init__, .func (PySem.W.fnOf "__init__" "BadWorld.__init__" (defArgs s_BadWorld___init__) (defBody s_BadWorld___init__) (defScope s_BadWorld___init__) .none kV_BadWorld___init__ dc_BadWorld___init__ pm_BadWorld___init__ an_BadWorld___init__ cd_BadWorld___init__ ct_BadWorld___init__), sl_BadWorld___init__⟩)
    (hd_BadWorld___init__ : PySem.W.codeIn K cd_BadWorld___init__ "BadWorld.__init__" = true)
    (hk_BadWorld___init__ : PySem.W.keepIn K (.ref a_BadWorld___init__) = true)
    (hi_BadWorld___init__ : PySem.W.isFn K (.ref a_BadWorld___init__) = true)
    (xl_BadLabel : K.lookup c_BadLabel = some (PySem.excClassObj nm_BadLabel qn_BadLabel c_BadLabel Na_BadLabel bs_BadLabel [.ref c_HandedcopiesError, .type "ValueError", .type "Exception", .type "BaseException", .type "object"] true sn_BadLabel sb_BadLabel ab_BadLabel co_BadLabel dd_BadLabel m0_BadLabel m1_BadLabel m2_BadLabel m3_BadLabel m5_BadLabel "ValueError.__new__"))
    (ke_o_BadLabel : xoxB K c_BadLabel = true)
    (ke_f_BadLabel : xffB K c_BadLabel ["label"] = true)
    (hf_BadLabel___init__ : PySem.W.findIn K (.ref c_BadLabel) "__init__" = some (some (.ref a_BadLabel___init__)))
    (ht_BadLabel___init__ : PySem.W.typeIn K (.ref a_BadLabel___init__) = some (.type "function"))
    (hl_BadLabel___init__ : K.lookup a_BadLabel___init__ = some ⟨oc_BadLabel___init__, od_BadLabel___init__, .func (PySem.W.fnOf "__init__" "BadLabel.__init__" (defArgs s_BadLabel___init__) (defBody s_BadLabel___init__) (defScope s_BadLabel___init__) .none kV_BadLabel___init__ dc_BadLabel___init__ pm_BadLabel___init__ an_BadLabel___init__ cd_BadLabel___init__ ct_BadLabel___init__), sl_BadLabel___init__⟩)
    (hd_BadLabel___init__ : PySem.W.codeIn K cd_BadLabel___init__ "BadLabel.__init__" = true)
    (hk_BadLabel___init__ : PySem.W.keepIn K (.ref a_BadLabel___init__) = true)
    (hi_BadLabel___init__ : PySem.W.isFn K (.ref a_BadLabel___init__) = true)
    (xl_BadGoal : K.lookup c_BadGoal = some (PySem.excClassObj nm_BadGoal qn_BadGoal c_BadGoal Na_BadGoal bs_BadGoal [.ref c_HandedcopiesError, .type "ValueError", .type "Exception", .type "BaseException", .type "object"] true sn_BadGoal sb_BadGoal ab_BadGoal co_BadGoal dd_BadGoal m0_BadGoal m1_BadGoal m2_BadGoal m3_BadGoal m5_BadGoal "ValueError.__new__"))
    (ke_o_BadGoal : xoxB K c_BadGoal = true)
    (ke_f_BadGoal : xffB K c_BadGoal ["goal"] = true)
    (hf_BadGoal___init__ : PySem.W.findIn K (.ref c_BadGoal) "__init__" = some (some (.ref a_BadGoal___init__)))
    (ht_BadGoal___init__ : PySem.W.typeIn K (.ref a_BadGoal___init__) = some (.type "function"))
    (hl_BadGoal___init__ : K.lookup a_BadGoal___init__ = some ⟨oc_BadGoal___init__, od_BadGoal___init__, .func (PySem.W.fnOf "__init__" "BadGoal.__init__" (defArgs s_BadGoal___init__) (defBody s_BadGoal___init__) (defScope s_BadGoal___init__) .none kV_BadGoal___init__ dc_BadGoal___init__ pm_BadGoal___init__ an_BadGoal___init__ cd_BadGoal___init__ ct_BadGoal___init__), sl_BadGoal___init__⟩)
    (hd_BadGoal___init__ : PySem.W.codeIn K cd_BadGoal___init__ "BadGoal.__init__" = true)
    (hk_BadGoal___init__ : PySem.W.keepIn K (.ref a_BadGoal___init__) = true)
    (hi_BadGoal___init__ : PySem.W.isFn K (.ref a_BadGoal___init__) = true)
    (xl_BadWhen : K.lookup c_BadWhen = some (PySem.excClassObj nm_BadWhen qn_BadWhen c_BadWhen Na_BadWhen bs_BadWhen [.ref c_HandedcopiesError, .type "ValueError", .type "Exception", .type "BaseException", .type "object"] true sn_BadWhen sb_BadWhen ab_BadWhen co_BadWhen dd_BadWhen m0_BadWhen m1_BadWhen m2_BadWhen m3_BadWhen m5_BadWhen "ValueError.__new__"))
    (ke_o_BadWhen : xoxB K c_BadWhen = true)
    (ke_f_BadWhen : xffB K c_BadWhen ["when"] = true)
    (hf_BadWhen___init__ : PySem.W.findIn K (.ref c_BadWhen) "__init__" = some (some (.ref a_BadWhen___init__)))
    (ht_BadWhen___init__ : PySem.W.typeIn K (.ref a_BadWhen___init__) = some (.type "function"))
    (hl_BadWhen___init__ : K.lookup a_BadWhen___init__ = some ⟨oc_BadWhen___init__, od_BadWhen___init__, .func (PySem.W.fnOf "__init__" "BadWhen.__init__" (defArgs s_BadWhen___init__) (defBody s_BadWhen___init__) (defScope s_BadWhen___init__) .none kV_BadWhen___init__ dc_BadWhen___init__ pm_BadWhen___init__ an_BadWhen___init__ cd_BadWhen___init__ ct_BadWhen___init__), sl_BadWhen___init__⟩)
    (hd_BadWhen___init__ : PySem.W.codeIn K cd_BadWhen___init__ "BadWhen.__init__" = true)
    (hk_BadWhen___init__ : PySem.W.keepIn K (.ref a_BadWhen___init__) = true)
    (hi_BadWhen___init__ : PySem.W.isFn K (.ref a_BadWhen___init__) = true)
    (xl_BadMend : K.lookup c_BadMend = some (PySem.excClassObj nm_BadMend qn_BadMend c_BadMend Na_BadMend bs_BadMend [.ref c_HandedcopiesError, .type "ValueError", .type "Exception", .type "BaseException", .type "object"] true sn_BadMend sb_BadMend ab_BadMend co_BadMend dd_BadMend m0_BadMend m1_BadMend m2_BadMend m3_BadMend m5_BadMend "ValueError.__new__"))
    (ke_o_BadMend : xoxB K c_BadMend = true)
    (ke_f_BadMend : xffB K c_BadMend ["at"] = true)
    (hf_BadMend___init__ : PySem.W.findIn K (.ref c_BadMend) "__init__" = some (some (.ref a_BadMend___init__)))
    (ht_BadMend___init__ : PySem.W.typeIn K (.ref a_BadMend___init__) = some (.type "function"))
    (hl_BadMend___init__ : K.lookup a_BadMend___init__ = some ⟨oc_BadMend___init__, od_BadMend___init__, .func (PySem.W.fnOf "__init__" "BadMend.__init__" (defArgs s_BadMend___init__) (defBody s_BadMend___init__) (defScope s_BadMend___init__) .none kV_BadMend___init__ dc_BadMend___init__ pm_BadMend___init__ an_BadMend___init__ cd_BadMend___init__ ct_BadMend___init__), sl_BadMend___init__⟩)
    (hd_BadMend___init__ : PySem.W.codeIn K cd_BadMend___init__ "BadMend.__init__" = true)
    (hk_BadMend___init__ : PySem.W.keepIn K (.ref a_BadMend___init__) = true)
    (hi_BadMend___init__ : PySem.W.isFn K (.ref a_BadMend___init__) = true)
    (xl_NoDoor : K.lookup c_NoDoor = some (PySem.excClassObj nm_NoDoor qn_NoDoor c_NoDoor Na_NoDoor bs_NoDoor [.ref c_HandedcopiesError, .type "ValueError", .type "Exception", .type "BaseException", .type "object"] true sn_NoDoor sb_NoDoor ab_NoDoor co_NoDoor dd_NoDoor m0_NoDoor m1_NoDoor m2_NoDoor m3_NoDoor m5_NoDoor "ValueError.__new__"))
    (ke_o_NoDoor : xoxB K c_NoDoor = true)
    (ke_f_NoDoor : xffB K c_NoDoor ["door"] = true)
    (hf_NoDoor___init__ : PySem.W.findIn K (.ref c_NoDoor) "__init__" = some (some (.ref a_NoDoor___init__)))
    (ht_NoDoor___init__ : PySem.W.typeIn K (.ref a_NoDoor___init__) = some (.type "function"))
    (hl_NoDoor___init__ : K.lookup a_NoDoor___init__ = some ⟨oc_NoDoor___init__, od_NoDoor___init__, .func (PySem.W.fnOf "__init__" "NoDoor.__init__" (defArgs s_NoDoor___init__) (defBody s_NoDoor___init__) (defScope s_NoDoor___init__) .none kV_NoDoor___init__ dc_NoDoor___init__ pm_NoDoor___init__ an_NoDoor___init__ cd_NoDoor___init__ ct_NoDoor___init__), sl_NoDoor___init__⟩)
    (hd_NoDoor___init__ : PySem.W.codeIn K cd_NoDoor___init__ "NoDoor.__init__" = true)
    (hk_NoDoor___init__ : PySem.W.keepIn K (.ref a_NoDoor___init__) = true)
    (hi_NoDoor___init__ : PySem.W.isFn K (.ref a_NoDoor___init__) = true)
    (xl_BadName : K.lookup c_BadName = some (PySem.excClassObj nm_BadName qn_BadName c_BadName Na_BadName bs_BadName [.ref c_HandedcopiesError, .type "ValueError", .type "Exception", .type "BaseException", .type "object"] true sn_BadName sb_BadName ab_BadName co_BadName dd_BadName m0_BadName m1_BadName m2_BadName m3_BadName m5_BadName "ValueError.__new__"))
    (ke_o_BadName : xoxB K c_BadName = true)
    (ke_f_BadName : xffB K c_BadName ["name"] = true)
    (hf_BadName___init__ : PySem.W.findIn K (.ref c_BadName) "__init__" = some (some (.ref a_BadName___init__)))
    (ht_BadName___init__ : PySem.W.typeIn K (.ref a_BadName___init__) = some (.type "function"))
    (hl_BadName___init__ : K.lookup a_BadName___init__ = some ⟨oc_BadName___init__, od_BadName___init__, .func (PySem.W.fnOf "__init__" "BadName.__init__" (defArgs s_BadName___init__) (defBody s_BadName___init__) (defScope s_BadName___init__) .none kV_BadName___init__ dc_BadName___init__ pm_BadName___init__ an_BadName___init__ cd_BadName___init__ ct_BadName___init__), sl_BadName___init__⟩)
    (hd_BadName___init__ : PySem.W.codeIn K cd_BadName___init__ "BadName.__init__" = true)
    (hk_BadName___init__ : PySem.W.keepIn K (.ref a_BadName___init__) = true)
    (hi_BadName___init__ : PySem.W.isFn K (.ref a_BadName___init__) = true)
    (xl_UnlikeFaces : K.lookup c_UnlikeFaces = some (PySem.excClassObj nm_UnlikeFaces qn_UnlikeFaces c_UnlikeFaces Na_UnlikeFaces bs_UnlikeFaces [.ref c_HandedcopiesError, .type "ValueError", .type "Exception", .type "BaseException", .type "object"] true sn_UnlikeFaces sb_UnlikeFaces ab_UnlikeFaces co_UnlikeFaces dd_UnlikeFaces m0_UnlikeFaces m1_UnlikeFaces m2_UnlikeFaces m3_UnlikeFaces m5_UnlikeFaces "ValueError.__new__"))
    (ke_o_UnlikeFaces : xoxB K c_UnlikeFaces = true)
    (ke_f_UnlikeFaces : xffB K c_UnlikeFaces ["method"] = true)
    (hf_UnlikeFaces___init__ : PySem.W.findIn K (.ref c_UnlikeFaces) "__init__" = some (some (.ref a_UnlikeFaces___init__)))
    (ht_UnlikeFaces___init__ : PySem.W.typeIn K (.ref a_UnlikeFaces___init__) = some (.type "function"))
    (hl_UnlikeFaces___init__ : K.lookup a_UnlikeFaces___init__ = some ⟨oc_UnlikeFaces___init__, od_UnlikeFaces___init__, .func (PySem.W.fnOf "__init__" "UnlikeFaces.__init__" (defArgs s_UnlikeFaces___init__) (defBody s_UnlikeFaces___init__) (defScope s_UnlikeFaces___init__) .none kV_UnlikeFaces___init__ dc_UnlikeFaces___init__ pm_UnlikeFaces___init__ an_UnlikeFaces___init__ cd_UnlikeFaces___init__ ct_UnlikeFaces___init__), sl_UnlikeFaces___init__⟩)
    (hd_UnlikeFaces___init__ : PySem.W.codeIn K cd_UnlikeFaces___init__ "UnlikeFaces.__init__" = true)
    (hk_UnlikeFaces___init__ : PySem.W.keepIn K (.ref a_UnlikeFaces___init__) = true)
    (hi_UnlikeFaces___init__ : PySem.W.isFn K (.ref a_UnlikeFaces___init__) = true)
    (xl_Shut : K.lookup c_Shut = some (PySem.excClassObj nm_Shut qn_Shut c_Shut Na_Shut bs_Shut [.type "RuntimeError", .type "Exception", .type "BaseException", .type "object"] true sn_Shut sb_Shut ab_Shut co_Shut dd_Shut m0_Shut m1_Shut m2_Shut m3_Shut m5_Shut "RuntimeError.__new__"))
    (ke_o_Shut : xoxB K c_Shut = true)
    (ke_f_Shut : xffB K c_Shut ["method"] = true)
    (hf_Shut___init__ : PySem.W.findIn K (.ref c_Shut) "__init__" = some (some (.ref a_Shut___init__)))
    (ht_Shut___init__ : PySem.W.typeIn K (.ref a_Shut___init__) = some (.type "function"))
    (hl_Shut___init__ : K.lookup a_Shut___init__ = some ⟨oc_Shut___init__, od_Shut___init__, .func (PySem.W.fnOf "__init__" "Shut.__init__" (defArgs s_Shut___init__) (defBody s_Shut___init__) (defScope s_Shut___init__) .none kV_Shut___init__ dc_Shut___init__ pm_Shut___init__ an_Shut___init__ cd_Shut___init__ ct_Shut___init__), sl_Shut___init__⟩)
    (hd_Shut___init__ : PySem.W.codeIn K cd_Shut___init__ "Shut.__init__" = true)
    (hk_Shut___init__ : PySem.W.keepIn K (.ref a_Shut___init__) = true)
    (hi_Shut___init__ : PySem.W.isFn K (.ref a_Shut___init__) = true)
    (ke_i_BadShape : xisB K c_BadShape = true)
    (ke_i_BadLine : xisB K c_BadLine = true)
    (ke_i_NoClass : xisB K c_NoClass = true)
    (ke_i_BadField : xisB K c_BadField = true)
    (ke_i_TooMany : xisB K c_TooMany = true)
    (ke_i_BadRow : xisB K c_BadRow = true)
    (ke_i_BadMethod : xisB K c_BadMethod = true)
    (ke_i_BadDeed : xisB K c_BadDeed = true)
    (ke_i_BadPlace : xisB K c_BadPlace = true)
    (ke_i_BadWorld : xisB K c_BadWorld = true)
    (ke_i_BadLabel : xisB K c_BadLabel = true)
    (ke_i_BadGoal : xisB K c_BadGoal = true)
    (ke_i_BadWhen : xisB K c_BadWhen = true)
    (ke_i_BadMend : xisB K c_BadMend = true)
    (ke_i_NoDoor : xisB K c_NoDoor = true)
    (ke_i_BadName : xisB K c_BadName = true)
    (ke_i_UnlikeFaces : xisB K c_UnlikeFaces = true)
    (ke_i_Busy : xisB K c_Busy = true)
    (ke_i_NotAsked : xisB K c_NotAsked = true)
    (ke_i_Shut : xisB K c_Shut = true)
    (ke_i_HandedcopiesError : xisB K c_HandedcopiesError = true)
    (re0 : PySem.W.findCls K (.type "RuntimeError") (.type "type") "__init__" = some (.val (.builtin "RuntimeError.__init__")))
    (ke_p_Busy : PySem.W.excIn K c_Busy [.type "RuntimeError", .type "Exception", .type "BaseException", .type "object"] "RuntimeError.__new__" = true)
    (pk_Busy : PySem.W.keepIn K (.ref c_Busy) = true)
    (ke_p_HandedcopiesError : PySem.W.excIn K c_HandedcopiesError [.type "ValueError", .type "Exception", .type "BaseException", .type "object"] "ValueError.__new__" = true)
    (pk_HandedcopiesError : PySem.W.keepIn K (.ref c_HandedcopiesError) = true)
    (ke_p_NotAsked : PySem.W.excIn K c_NotAsked [.type "RuntimeError", .type "Exception", .type "BaseException", .type "object"] "RuntimeError.__new__" = true)
    (pk_NotAsked : PySem.W.keepIn K (.ref c_NotAsked) = true)
    (ke_k_BadDeed : kitsB K (.ref c_BadDeed) [(c_BadShape, false), (c_BadLine, false), (c_NoClass, false), (c_BadField, false), (c_TooMany, false), (c_BadRow, false), (c_BadMethod, false), (c_BadDeed, true), (c_BadPlace, false), (c_BadWorld, false), (c_BadLabel, false), (c_BadGoal, false), (c_BadWhen, false), (c_BadMend, false), (c_NoDoor, false), (c_BadName, false), (c_UnlikeFaces, false), (c_Busy, false), (c_NotAsked, false), (c_Shut, false), (c_HandedcopiesError, false)] = true)
    (ke_k_BadField : kitsB K (.ref c_BadField) [(c_BadShape, false), (c_BadLine, false), (c_NoClass, false), (c_BadField, true), (c_TooMany, false), (c_BadRow, false), (c_BadMethod, false), (c_BadDeed, false), (c_BadPlace, false), (c_BadWorld, false), (c_BadLabel, false), (c_BadGoal, false), (c_BadWhen, false), (c_BadMend, false), (c_NoDoor, false), (c_BadName, false), (c_UnlikeFaces, false), (c_Busy, false), (c_NotAsked, false), (c_Shut, false), (c_HandedcopiesError, false)] = true)
    (ke_k_BadGoal : kitsB K (.ref c_BadGoal) [(c_BadShape, false), (c_BadLine, false), (c_NoClass, false), (c_BadField, false), (c_TooMany, false), (c_BadRow, false), (c_BadMethod, false), (c_BadDeed, false), (c_BadPlace, false), (c_BadWorld, false), (c_BadLabel, false), (c_BadGoal, true), (c_BadWhen, false), (c_BadMend, false), (c_NoDoor, false), (c_BadName, false), (c_UnlikeFaces, false), (c_Busy, false), (c_NotAsked, false), (c_Shut, false), (c_HandedcopiesError, false)] = true)
    (ke_k_BadLabel : kitsB K (.ref c_BadLabel) [(c_BadShape, false), (c_BadLine, false), (c_NoClass, false), (c_BadField, false), (c_TooMany, false), (c_BadRow, false), (c_BadMethod, false), (c_BadDeed, false), (c_BadPlace, false), (c_BadWorld, false), (c_BadLabel, true), (c_BadGoal, false), (c_BadWhen, false), (c_BadMend, false), (c_NoDoor, false), (c_BadName, false), (c_UnlikeFaces, false), (c_Busy, false), (c_NotAsked, false), (c_Shut, false), (c_HandedcopiesError, false)] = true)
    (ke_k_BadLine : kitsB K (.ref c_BadLine) [(c_BadShape, false), (c_BadLine, true), (c_NoClass, false), (c_BadField, false), (c_TooMany, false), (c_BadRow, false), (c_BadMethod, false), (c_BadDeed, false), (c_BadPlace, false), (c_BadWorld, false), (c_BadLabel, false), (c_BadGoal, false), (c_BadWhen, false), (c_BadMend, false), (c_NoDoor, false), (c_BadName, false), (c_UnlikeFaces, false), (c_Busy, false), (c_NotAsked, false), (c_Shut, false), (c_HandedcopiesError, false)] = true)
    (ke_k_BadMend : kitsB K (.ref c_BadMend) [(c_BadShape, false), (c_BadLine, false), (c_NoClass, false), (c_BadField, false), (c_TooMany, false), (c_BadRow, false), (c_BadMethod, false), (c_BadDeed, false), (c_BadPlace, false), (c_BadWorld, false), (c_BadLabel, false), (c_BadGoal, false), (c_BadWhen, false), (c_BadMend, true), (c_NoDoor, false), (c_BadName, false), (c_UnlikeFaces, false), (c_Busy, false), (c_NotAsked, false), (c_Shut, false), (c_HandedcopiesError, false)] = true)
    (ke_k_BadMethod : kitsB K (.ref c_BadMethod) [(c_BadShape, false), (c_BadLine, false), (c_NoClass, false), (c_BadField, false), (c_TooMany, false), (c_BadRow, false), (c_BadMethod, true), (c_BadDeed, false), (c_BadPlace, false), (c_BadWorld, false), (c_BadLabel, false), (c_BadGoal, false), (c_BadWhen, false), (c_BadMend, false), (c_NoDoor, false), (c_BadName, false), (c_UnlikeFaces, false), (c_Busy, false), (c_NotAsked, false), (c_Shut, false), (c_HandedcopiesError, false)] = true)
    (ke_k_BadName : kitsB K (.ref c_BadName) [(c_BadShape, false), (c_BadLine, false), (c_NoClass, false), (c_BadField, false), (c_TooMany, false), (c_BadRow, false), (c_BadMethod, false), (c_BadDeed, false), (c_BadPlace, false), (c_BadWorld, false), (c_BadLabel, false), (c_BadGoal, false), (c_BadWhen, false), (c_BadMend, false), (c_NoDoor, false), (c_BadName, true), (c_UnlikeFaces, false), (c_Busy, false), (c_NotAsked, false), (c_Shut, false), (c_HandedcopiesError, false)] = true)
    (ke_k_BadPlace : kitsB K (.ref c_BadPlace) [(c_BadShape, false), (c_BadLine, false), (c_NoClass, false), (c_BadField, false), (c_TooMany, false), (c_BadRow, false), (c_BadMethod, false), (c_BadDeed, false), (c_BadPlace, true), (c_BadWorld, false), (c_BadLabel, false), (c_BadGoal, false), (c_BadWhen, false), (c_BadMend, false), (c_NoDoor, false), (c_BadName, false), (c_UnlikeFaces, false), (c_Busy, false), (c_NotAsked, false), (c_Shut, false), (c_HandedcopiesError, false)] = true)
    (ke_k_BadRow : kitsB K (.ref c_BadRow) [(c_BadShape, false), (c_BadLine, false), (c_NoClass, false), (c_BadField, false), (c_TooMany, false), (c_BadRow, true), (c_BadMethod, false), (c_BadDeed, false), (c_BadPlace, false), (c_BadWorld, false), (c_BadLabel, false), (c_BadGoal, false), (c_BadWhen, false), (c_BadMend, false), (c_NoDoor, false), (c_BadName, false), (c_UnlikeFaces, false), (c_Busy, false), (c_NotAsked, false), (c_Shut, false), (c_HandedcopiesError, false)] = true)
    (ke_k_BadShape : kitsB K (.ref c_BadShape) [(c_BadShape, true), (c_BadLine, false), (c_NoClass, false), (c_BadField, false), (c_TooMany, false), (c_BadRow, false), (c_BadMethod, false), (c_BadDeed, false), (c_BadPlace, false), (c_BadWorld, false), (c_BadLabel, false), (c_BadGoal, false), (c_BadWhen, false), (c_BadMend, false), (c_NoDoor, false), (c_BadName, false), (c_UnlikeFaces, false), (c_Busy, false), (c_NotAsked, false), (c_Shut, false), (c_HandedcopiesError, false)] = true)
    (ke_k_BadWhen : kitsB K (.ref c_BadWhen) [(c_BadShape, false), (c_BadLine, false), (c_NoClass, false), (c_BadField, false), (c_TooMany, false), (c_BadRow, false), (c_BadMethod, false), (c_BadDeed, false), (c_BadPlace, false), (c_BadWorld, false), (c_BadLabel, false), (c_BadGoal, false), (c_BadWhen, true), (c_BadMend, false), (c_NoDoor, false), (c_BadName, false), (c_UnlikeFaces, false), (c_Busy, false), (c_NotAsked, false), (c_Shut, false), (c_HandedcopiesError, false)] = true)
    (ke_k_BadWorld : kitsB K (.ref c_BadWorld) [(c_BadShape, false), (c_BadLine, false), (c_NoClass, false), (c_BadField, false), (c_TooMany, false), (c_BadRow, false), (c_BadMethod, false), (c_BadDeed, false), (c_BadPlace, false), (c_BadWorld, true), (c_BadLabel, false), (c_BadGoal, false), (c_BadWhen, false), (c_BadMend, false), (c_NoDoor, false), (c_BadName, false), (c_UnlikeFaces, false), (c_Busy, false), (c_NotAsked, false), (c_Shut, false), (c_HandedcopiesError, false)] = true)
    (ke_k_Busy : kitsB K (.ref c_Busy) [(c_BadShape, false), (c_BadLine, false), (c_NoClass, false), (c_BadField, false), (c_TooMany, false), (c_BadRow, false), (c_BadMethod, false), (c_BadDeed, false), (c_BadPlace, false), (c_BadWorld, false), (c_BadLabel, false), (c_BadGoal, false), (c_BadWhen, false), (c_BadMend, false), (c_NoDoor, false), (c_BadName, false), (c_UnlikeFaces, false), (c_Busy, true), (c_NotAsked, false), (c_Shut, false), (c_HandedcopiesError, false)] = true)
    (ke_k_HandedcopiesError : kitsB K (.ref c_HandedcopiesError) [(c_BadShape, true), (c_BadLine, true), (c_NoClass, true), (c_BadField, true), (c_TooMany, true), (c_BadRow, true), (c_BadMethod, true), (c_BadDeed, true), (c_BadPlace, true), (c_BadWorld, true), (c_BadLabel, true), (c_BadGoal, true), (c_BadWhen, true), (c_BadMend, true), (c_NoDoor, true), (c_BadName, true), (c_UnlikeFaces, true), (c_Busy, false), (c_NotAsked, false), (c_Shut, false), (c_HandedcopiesError, true)] = true)
    (ke_k_LookupError : kitsB K (.type "LookupError") [(c_BadShape, false), (c_BadLine, false), (c_NoClass, false), (c_BadField, false), (c_TooMany, false), (c_BadRow, false), (c_BadMethod, false), (c_BadDeed, false), (c_BadPlace, false), (c_BadWorld, false), (c_BadLabel, false), (c_BadGoal, false), (c_BadWhen, false), (c_BadMend, false), (c_NoDoor, false), (c_BadName, false), (c_UnlikeFaces, false), (c_Busy, false), (c_NotAsked, false), (c_Shut, false), (c_HandedcopiesError, false)] = true)
    (ke_k_NoClass : kitsB K (.ref c_NoClass) [(c_BadShape, false), (c_BadLine, false), (c_NoClass, true), (c_BadField, false), (c_TooMany, false), (c_BadRow, false), (c_BadMethod, false), (c_BadDeed, false), (c_BadPlace, false), (c_BadWorld, false), (c_BadLabel, false), (c_BadGoal, false), (c_BadWhen, false), (c_BadMend, false), (c_NoDoor, false), (c_BadName, false), (c_UnlikeFaces, false), (c_Busy, false), (c_NotAsked, false), (c_Shut, false), (c_HandedcopiesError, false)] = true)
    (ke_k_NoDoor : kitsB K (.ref c_NoDoor) [(c_BadShape, false), (c_BadLine, false), (c_NoClass, false), (c_BadField, false), (c_TooMany, false), (c_BadRow, false), (c_BadMethod, false), (c_BadDeed, false), (c_BadPlace, false), (c_BadWorld, false), (c_BadLabel, false), (c_BadGoal, false), (c_BadWhen, false), (c_BadMend, false), (c_NoDoor, true), (c_BadName, false), (c_UnlikeFaces, false), (c_Busy, false), (c_NotAsked, false), (c_Shut, false), (c_HandedcopiesError, false)] = true)
    (ke_k_NotAsked : kitsB K (.ref c_NotAsked) [(c_BadShape, false), (c_BadLine, false), (c_NoClass, false), (c_BadField, false), (c_TooMany, false), (c_BadRow, false), (c_BadMethod, false), (c_BadDeed, false), (c_BadPlace, false), (c_BadWorld, false), (c_BadLabel, false), (c_BadGoal, false), (c_BadWhen, false), (c_BadMend, false), (c_NoDoor, false), (c_BadName, false), (c_UnlikeFaces, false), (c_Busy, false), (c_NotAsked, true), (c_Shut, false), (c_HandedcopiesError, false)] = true)
    (ke_k_RuntimeError : kitsB K (.type "RuntimeError") [(c_BadShape, false), (c_BadLine, false), (c_NoClass, false), (c_BadField, false), (c_TooMany, false), (c_BadRow, false), (c_BadMethod, false), (c_BadDeed, false), (c_BadPlace, false), (c_BadWorld, false), (c_BadLabel, false), (c_BadGoal, false), (c_BadWhen, false), (c_BadMend, false), (c_NoDoor, false), (c_BadName, false), (c_UnlikeFaces, false), (c_Busy, true), (c_NotAsked, true), (c_Shut, true), (c_HandedcopiesError, false)] = true)
    (ke_k_Shut : kitsB K (.ref c_Shut) [(c_BadShape, false), (c_BadLine, false), (c_NoClass, false), (c_BadField, false), (c_TooMany, false), (c_BadRow, false), (c_BadMethod, false), (c_BadDeed, false), (c_BadPlace, false), (c_BadWorld, false), (c_BadLabel, false), (c_BadGoal, false), (c_BadWhen, false), (c_BadMend, false), (c_NoDoor, false), (c_BadName, false), (c_UnlikeFaces, false), (c_Busy, false), (c_NotAsked, false), (c_Shut, true), (c_HandedcopiesError, false)] = true)
    (ke_k_TooMany : kitsB K (.ref c_TooMany) [(c_BadShape, false), (c_BadLine, false), (c_NoClass, false), (c_BadField, false), (c_TooMany, true), (c_BadRow, false), (c_BadMethod, false), (c_BadDeed, false), (c_BadPlace, false), (c_BadWorld, false), (c_BadLabel, false), (c_BadGoal, false), (c_BadWhen, false), (c_BadMend, false), (c_NoDoor, false), (c_BadName, false), (c_UnlikeFaces, false), (c_Busy, false), (c_NotAsked, false), (c_Shut, false), (c_HandedcopiesError, false)] = true)
    (ke_k_UnlikeFaces : kitsB K (.ref c_UnlikeFaces) [(c_BadShape, false), (c_BadLine, false), (c_NoClass, false), (c_BadField, false), (c_TooMany, false), (c_BadRow, false), (c_BadMethod, false), (c_BadDeed, false), (c_BadPlace, false), (c_BadWorld, false), (c_BadLabel, false), (c_BadGoal, false), (c_BadWhen, false), (c_BadMend, false), (c_NoDoor, false), (c_BadName, false), (c_UnlikeFaces, true), (c_Busy, false), (c_NotAsked, false), (c_Shut, false), (c_HandedcopiesError, false)] = true)
    (ke_k_ValueError : kitsB K (.type "ValueError") [(c_BadShape, true), (c_BadLine, true), (c_NoClass, true), (c_BadField, true), (c_TooMany, true), (c_BadRow, true), (c_BadMethod, true), (c_BadDeed, true), (c_BadPlace, true), (c_BadWorld, true), (c_BadLabel, true), (c_BadGoal, true), (c_BadWhen, true), (c_BadMend, true), (c_NoDoor, true), (c_BadName, true), (c_UnlikeFaces, true), (c_Busy, false), (c_NotAsked, false), (c_Shut, false), (c_HandedcopiesError, true)] = true)
    : Txt K mg ⟨a__law_start, a__law_draw, a__law_of, a__law_value, a__law_fields_stand, a__law_first, a__law_second, a_law, a_BadShape___init__, a_BadLine___init__, a_NoClass___init__, a_BadField___init__, a_TooMany___init__, a_BadRow___init__, a_BadMethod___init__, a_BadDeed___init__, a_BadPlace___init__, a_BadWorld___init__, a_BadLabel___init__, a_BadGoal___init__, a_BadWhen___init__, a_BadMend___init__, a_NoDoor___init__, a_BadName___init__, a_UnlikeFaces___init__, a_Shut___init__, c_BadDeed, c_BadField, c_BadGoal, c_BadLabel, c_BadLine, c_BadMend, c_BadMethod, c_BadName, c_BadPlace, c_BadRow, c_BadShape, c_BadWhen, c_BadWorld, c_Busy, c_HandedcopiesError, c_NoClass, c_NoDoor, c_NotAsked, c_Shut, c_TooMany, c_UnlikeFaces⟩ := by
  have F__law_start := fun_mk (st := s__law_start) hl__law_start hd__law_start hk__law_start
  have b__law_start := F__law_start.binds (ps := ["_law_script"]) fun _ _ _ _ _ _ us hl => match us, hl with | [_], _ => rfl
  have F__law_draw := fun_mk (st := s__law_draw) hl__law_draw hd__law_draw hk__law_draw
  have b__law_draw := F__law_draw.binds (ps := ["_law_state", "_law_many"]) fun _ _ _ _ _ _ us hl => match us, hl with | [_, _], _ => rfl
  have F__law_of := fun_mk (st := s__law_of) hl__law_of hd__law_of hk__law_of
  have b__law_of := F__law_of.binds (ps := ["_law_state", "_law_some"]) fun _ _ _ _ _ _ us hl => match us, hl with | [_, _], _ => rfl
  have F__law_value := fun_mk (st := s__law_value) hl__law_value hd__law_value hk__law_value
  have b__law_value := F__law_value.binds (ps := ["_law_state"]) fun _ _ _ _ _ _ us hl => match us, hl with | [_], _ => rfl
  have F__law_fields_stand := fun_mk (st := s__law_fields_stand) hl__law_fields_stand hd__law_fields_stand hk__law_fields_stand
  have b__law_fields_stand := F__law_fields_stand.binds (ps := ["_law_a", "_law_b", "_law_c"]) fun _ _ _ _ _ _ us hl => match us, hl with | [_, _, _], _ => rfl
  have F__law_first := fun_mk (st := s__law_first) hl__law_first hd__law_first hk__law_first
  have b__law_first := F__law_first.binds (ps := ["_law_e"]) fun _ _ _ _ _ _ us hl => match us, hl with | [_], _ => rfl
  have F__law_second := fun_mk (st := s__law_second) hl__law_second hd__law_second hk__law_second
  have b__law_second := F__law_second.binds (ps := ["_law_e"]) fun _ _ _ _ _ _ us hl => match us, hl with | [_], _ => rfl
  have F_law := fun_mk (st := s_law) hl_law hd_law hk_law
  have b_law := F_law.binds (ps := ["_law_script"]) fun _ _ _ _ _ _ us hl => match us, hl with | [_], _ => rfl
  have F_BadShape___init__ := fun_mk (st := s_BadShape___init__) hl_BadShape___init__ hd_BadShape___init__ hk_BadShape___init__
  have b_BadShape___init__ := F_BadShape___init__.binds (ps := ["self", "text"]) fun _ _ _ _ _ _ us hl => match us, hl with | [_, _], _ => rfl
  have F_BadLine___init__ := fun_mk (st := s_BadLine___init__) hl_BadLine___init__ hd_BadLine___init__ hk_BadLine___init__
  have b_BadLine___init__ := F_BadLine___init__.binds (ps := ["self", "at"]) fun _ _ _ _ _ _ us hl => match us, hl with | [_, _], _ => rfl
  have F_NoClass___init__ := fun_mk (st := s_NoClass___init__) hl_NoClass___init__ hd_NoClass___init__ hk_NoClass___init__
  have b_NoClass___init__ := F_NoClass___init__.binds (ps := ["self", "name"]) fun _ _ _ _ _ _ us hl => match us, hl with | [_, _], _ => rfl
  have F_BadField___init__ := fun_mk (st := s_BadField___init__) hl_BadField___init__ hd_BadField___init__ hk_BadField___init__
  have b_BadField___init__ := F_BadField___init__.binds (ps := ["self", "name"]) fun _ _ _ _ _ _ us hl => match us, hl with | [_, _], _ => rfl
  have F_TooMany___init__ := fun_mk (st := s_TooMany___init__) hl_TooMany___init__ hd_TooMany___init__ hk_TooMany___init__
  have b_TooMany___init__ := F_TooMany___init__.binds (ps := ["self", "what"]) fun _ _ _ _ _ _ us hl => match us, hl with | [_, _], _ => rfl
  have F_BadRow___init__ := fun_mk (st := s_BadRow___init__) hl_BadRow___init__ hd_BadRow___init__ hk_BadRow___init__
  have b_BadRow___init__ := F_BadRow___init__.binds (ps := ["self", "owner", "method", "at"]) fun _ _ _ _ _ _ us hl => match us, hl with | [_, _, _, _], _ => rfl
  have F_BadMethod___init__ := fun_mk (st := s_BadMethod___init__) hl_BadMethod___init__ hd_BadMethod___init__ hk_BadMethod___init__
  have b_BadMethod___init__ := F_BadMethod___init__.binds (ps := ["self", "owner", "method"]) fun _ _ _ _ _ _ us hl => match us, hl with | [_, _, _], _ => rfl
  have F_BadDeed___init__ := fun_mk (st := s_BadDeed___init__) hl_BadDeed___init__ hd_BadDeed___init__ hk_BadDeed___init__
  have b_BadDeed___init__ := F_BadDeed___init__.binds (ps := ["self", "deed"]) fun _ _ _ _ _ _ us hl => match us, hl with | [_, _], _ => rfl
  have F_BadPlace___init__ := fun_mk (st := s_BadPlace___init__) hl_BadPlace___init__ hd_BadPlace___init__ hk_BadPlace___init__
  have b_BadPlace___init__ := F_BadPlace___init__.binds (ps := ["self", "place"]) fun _ _ _ _ _ _ us hl => match us, hl with | [_, _], _ => rfl
  have F_BadWorld___init__ := fun_mk (st := s_BadWorld___init__) hl_BadWorld___init__ hd_BadWorld___init__ hk_BadWorld___init__
  have b_BadWorld___init__ := F_BadWorld___init__.binds (ps := ["self", "form"]) fun _ _ _ _ _ _ us hl => match us, hl with | [_, _], _ => rfl
  have F_BadLabel___init__ := fun_mk (st := s_BadLabel___init__) hl_BadLabel___init__ hd_BadLabel___init__ hk_BadLabel___init__
  have b_BadLabel___init__ := F_BadLabel___init__.binds (ps := ["self", "label"]) fun _ _ _ _ _ _ us hl => match us, hl with | [_, _], _ => rfl
  have F_BadGoal___init__ := fun_mk (st := s_BadGoal___init__) hl_BadGoal___init__ hd_BadGoal___init__ hk_BadGoal___init__
  have b_BadGoal___init__ := F_BadGoal___init__.binds (ps := ["self", "goal"]) fun _ _ _ _ _ _ us hl => match us, hl with | [_, _], _ => rfl
  have F_BadWhen___init__ := fun_mk (st := s_BadWhen___init__) hl_BadWhen___init__ hd_BadWhen___init__ hk_BadWhen___init__
  have b_BadWhen___init__ := F_BadWhen___init__.binds (ps := ["self", "when"]) fun _ _ _ _ _ _ us hl => match us, hl with | [_, _], _ => rfl
  have F_BadMend___init__ := fun_mk (st := s_BadMend___init__) hl_BadMend___init__ hd_BadMend___init__ hk_BadMend___init__
  have b_BadMend___init__ := F_BadMend___init__.binds (ps := ["self", "at"]) fun _ _ _ _ _ _ us hl => match us, hl with | [_, _], _ => rfl
  have F_NoDoor___init__ := fun_mk (st := s_NoDoor___init__) hl_NoDoor___init__ hd_NoDoor___init__ hk_NoDoor___init__
  have b_NoDoor___init__ := F_NoDoor___init__.binds (ps := ["self", "door"]) fun _ _ _ _ _ _ us hl => match us, hl with | [_, _], _ => rfl
  have F_BadName___init__ := fun_mk (st := s_BadName___init__) hl_BadName___init__ hd_BadName___init__ hk_BadName___init__
  have b_BadName___init__ := F_BadName___init__.binds (ps := ["self", "name"]) fun _ _ _ _ _ _ us hl => match us, hl with | [_, _], _ => rfl
  have F_UnlikeFaces___init__ := fun_mk (st := s_UnlikeFaces___init__) hl_UnlikeFaces___init__ hd_UnlikeFaces___init__ hk_UnlikeFaces___init__
  have b_UnlikeFaces___init__ := F_UnlikeFaces___init__.binds (ps := ["self", "method"]) fun _ _ _ _ _ _ us hl => match us, hl with | [_, _], _ => rfl
  have F_Shut___init__ := fun_mk (st := s_Shut___init__) hl_Shut___init__ hd_Shut___init__ hk_Shut___init__
  have b_Shut___init__ := F_Shut___init__.binds (ps := ["self", "method"]) fun _ _ _ _ _ _ us hl => match us, hl with | [_, _], _ => rfl
  exact ⟨⟨⟨_, F__law_start, b__law_start⟩, hi__law_start⟩, (PySem.W.mg_of X G hf__law_start), ⟨⟨_, F__law_draw, b__law_draw⟩, hi__law_draw⟩, (PySem.W.mg_of X G hf__law_draw), ⟨⟨_, F__law_of, b__law_of⟩, hi__law_of⟩, (PySem.W.mg_of X G hf__law_of), ⟨⟨_, F__law_value, b__law_value⟩, hi__law_value⟩, (PySem.W.mg_of X G hf__law_value), ⟨⟨_, F__law_fields_stand, b__law_fields_stand⟩, hi__law_fields_stand⟩, (PySem.W.mg_of X G hf__law_fields_stand), ⟨⟨_, F__law_first, b__law_first⟩, hi__law_first⟩, (PySem.W.mg_of X G hf__law_first), ⟨⟨_, F__law_second, b__law_second⟩, hi__law_second⟩, (PySem.W.mg_of X G hf__law_second), ⟨⟨_, F_law, b_law⟩, hi_law⟩, (PySem.W.mg_of X G hf_law), (PySem.W.mg_none_of X G hb_LookupError), (PySem.W.mg_none_of X G hb_RuntimeError), (PySem.W.mg_none_of X G hb_ValueError), (PySem.W.mg_none_of X G hb_abs), (PySem.W.mg_none_of X G hb_enumerate), (PySem.W.mg_none_of X G hb_int), (PySem.W.mg_none_of X G hb_isinstance), (PySem.W.mg_none_of X G hb_len), (PySem.W.mg_none_of X G hb_list), (PySem.W.mg_none_of X G hb_range), (PySem.W.mg_of X G hc_BadDeed), (PySem.W.mg_of X G hc_BadField), (PySem.W.mg_of X G hc_BadGoal), (PySem.W.mg_of X G hc_BadLabel), (PySem.W.mg_of X G hc_BadLine), (PySem.W.mg_of X G hc_BadMend), (PySem.W.mg_of X G hc_BadMethod), (PySem.W.mg_of X G hc_BadName), (PySem.W.mg_of X G hc_BadPlace), (PySem.W.mg_of X G hc_BadRow), (PySem.W.mg_of X G hc_BadShape), (PySem.W.mg_of X G hc_BadWhen), (PySem.W.mg_of X G hc_BadWorld), (PySem.W.mg_of X G hc_Busy), (PySem.W.mg_of X G hc_HandedcopiesError), (PySem.W.mg_of X G hc_NoClass), (PySem.W.mg_of X G hc_NoDoor), (PySem.W.mg_of X G hc_NotAsked), (PySem.W.mg_of X G hc_Shut), (PySem.W.mg_of X G hc_TooMany), (PySem.W.mg_of X G hc_UnlikeFaces), ⟨⟨_, (PySem.W.mg_of X G hc_HandedcopiesError), br_HandedcopiesError, bs_HandedcopiesError, bf_HandedcopiesError⟩⟩, ⟨⟨_, F_BadShape___init__, b_BadShape___init__⟩, hi_BadShape___init__⟩, (oex_of ⟨_, _, _, _, _, _, _, _, _, _, _, _, _, _, _, xl_BadShape, rfl⟩ ke_o_BadShape), (xff_of ke_f_BadShape), hf_BadShape___init__, ht_BadShape___init__, ⟨⟨_, F_BadLine___init__, b_BadLine___init__⟩, hi_BadLine___init__⟩, (oex_of ⟨_, _, _, _, _, _, _, _, _, _, _, _, _, _, _, xl_BadLine, rfl⟩ ke_o_BadLine), (xff_of ke_f_BadLine), hf_BadLine___init__, ht_BadLine___init__, ⟨⟨_, F_NoClass___init__, b_NoClass___init__⟩, hi_NoClass___init__⟩, (oex_of ⟨_, _, _, _, _, _, _, _, _, _, _, _, _, _, _, xl_NoClass, rfl⟩ ke_o_NoClass), (xff_of ke_f_NoClass), hf_NoClass___init__, ht_NoClass___init__, ⟨⟨_, F_BadField___init__, b_BadField___init__⟩, hi_BadField___init__⟩, (oex_of ⟨_, _, _, _, _, _, _, _, _, _, _, _, _, _, _, xl_BadField, rfl⟩ ke_o_BadField), (xff_of ke_f_BadField), hf_BadField___init__, ht_BadField___init__, ⟨⟨_, F_TooMany___init__, b_TooMany___init__⟩, hi_TooMany___init__⟩, (oex_of ⟨_, _, _, _, _, _, _, _, _, _, _, _, _, _, _, xl_TooMany, rfl⟩ ke_o_TooMany), (xff_of ke_f_TooMany), hf_TooMany___init__, ht_TooMany___init__, ⟨⟨_, F_BadRow___init__, b_BadRow___init__⟩, hi_BadRow___init__⟩, (oex_of ⟨_, _, _, _, _, _, _, _, _, _, _, _, _, _, _, xl_BadRow, rfl⟩ ke_o_BadRow), (xff_of ke_f_BadRow), hf_BadRow___init__, ht_BadRow___init__, ⟨⟨_, F_BadMethod___init__, b_BadMethod___init__⟩, hi_BadMethod___init__⟩, (oex_of ⟨_, _, _, _, _, _, _, _, _, _, _, _, _, _, _, xl_BadMethod, rfl⟩ ke_o_BadMethod), (xff_of ke_f_BadMethod), hf_BadMethod___init__, ht_BadMethod___init__, ⟨⟨_, F_BadDeed___init__, b_BadDeed___init__⟩, hi_BadDeed___init__⟩, (oex_of ⟨_, _, _, _, _, _, _, _, _, _, _, _, _, _, _, xl_BadDeed, rfl⟩ ke_o_BadDeed), (xff_of ke_f_BadDeed), hf_BadDeed___init__, ht_BadDeed___init__, ⟨⟨_, F_BadPlace___init__, b_BadPlace___init__⟩, hi_BadPlace___init__⟩, (oex_of ⟨_, _, _, _, _, _, _, _, _, _, _, _, _, _, _, xl_BadPlace, rfl⟩ ke_o_BadPlace), (xff_of ke_f_BadPlace), hf_BadPlace___init__, ht_BadPlace___init__, ⟨⟨_, F_BadWorld___init__, b_BadWorld___init__⟩, hi_BadWorld___init__⟩, (oex_of ⟨_, _, _, _, _, _, _, _, _, _, _, _, _, _, _, xl_BadWorld, rfl⟩ ke_o_BadWorld), (xff_of ke_f_BadWorld), hf_BadWorld___init__, ht_BadWorld___init__, ⟨⟨_, F_BadLabel___init__, b_BadLabel___init__⟩, hi_BadLabel___init__⟩, (oex_of ⟨_, _, _, _, _, _, _, _, _, _, _, _, _, _, _, xl_BadLabel, rfl⟩ ke_o_BadLabel), (xff_of ke_f_BadLabel), hf_BadLabel___init__, ht_BadLabel___init__, ⟨⟨_, F_BadGoal___init__, b_BadGoal___init__⟩, hi_BadGoal___init__⟩, (oex_of ⟨_, _, _, _, _, _, _, _, _, _, _, _, _, _, _, xl_BadGoal, rfl⟩ ke_o_BadGoal), (xff_of ke_f_BadGoal), hf_BadGoal___init__, ht_BadGoal___init__, ⟨⟨_, F_BadWhen___init__, b_BadWhen___init__⟩, hi_BadWhen___init__⟩, (oex_of ⟨_, _, _, _, _, _, _, _, _, _, _, _, _, _, _, xl_BadWhen, rfl⟩ ke_o_BadWhen), (xff_of ke_f_BadWhen), hf_BadWhen___init__, ht_BadWhen___init__, ⟨⟨_, F_BadMend___init__, b_BadMend___init__⟩, hi_BadMend___init__⟩, (oex_of ⟨_, _, _, _, _, _, _, _, _, _, _, _, _, _, _, xl_BadMend, rfl⟩ ke_o_BadMend), (xff_of ke_f_BadMend), hf_BadMend___init__, ht_BadMend___init__, ⟨⟨_, F_NoDoor___init__, b_NoDoor___init__⟩, hi_NoDoor___init__⟩, (oex_of ⟨_, _, _, _, _, _, _, _, _, _, _, _, _, _, _, xl_NoDoor, rfl⟩ ke_o_NoDoor), (xff_of ke_f_NoDoor), hf_NoDoor___init__, ht_NoDoor___init__, ⟨⟨_, F_BadName___init__, b_BadName___init__⟩, hi_BadName___init__⟩, (oex_of ⟨_, _, _, _, _, _, _, _, _, _, _, _, _, _, _, xl_BadName, rfl⟩ ke_o_BadName), (xff_of ke_f_BadName), hf_BadName___init__, ht_BadName___init__, ⟨⟨_, F_UnlikeFaces___init__, b_UnlikeFaces___init__⟩, hi_UnlikeFaces___init__⟩, (oex_of ⟨_, _, _, _, _, _, _, _, _, _, _, _, _, _, _, xl_UnlikeFaces, rfl⟩ ke_o_UnlikeFaces), (xff_of ke_f_UnlikeFaces), hf_UnlikeFaces___init__, ht_UnlikeFaces___init__, ⟨⟨_, F_Shut___init__, b_Shut___init__⟩, hi_Shut___init__⟩, ⟨⟨_, _, _, _, _, _, _, _, _, _, _, _, _, _, xl_Shut⟩, (xox_sa ke_o_Shut).1, (xis_of ke_i_Shut).hm, (xff_of ke_f_Shut).2 _ (by decide)⟩, (xox_sa ke_o_Shut).2, (xff_of ke_f_Shut), hf_Shut___init__, ht_Shut___init__, re0, ⟨⟨_, _, _, _, _, (PySem.W.mg_of X G hc_Busy), PySem.F.excBase_RuntimeError, ke_p_Busy, pk_Busy⟩⟩, ⟨⟨_, _, _, _, _, (PySem.W.mg_of X G hc_HandedcopiesError), PySem.F.excBase_ValueError, ke_p_HandedcopiesError, pk_HandedcopiesError⟩⟩, ⟨⟨_, _, _, _, _, (PySem.W.mg_of X G hc_NotAsked), PySem.F.excBase_RuntimeError, ke_p_NotAsked, pk_NotAsked⟩⟩, (xis_of ke_i_BadShape), (xis_of ke_i_BadLine), (xis_of ke_i_NoClass), (xis_of ke_i_BadField), (xis_of ke_i_TooMany), (xis_of ke_i_BadRow), (xis_of ke_i_BadMethod), (xis_of ke_i_BadDeed), (xis_of ke_i_BadPlace), (xis_of ke_i_BadWorld), (xis_of ke_i_BadLabel), (xis_of ke_i_BadGoal), (xis_of ke_i_BadWhen), (xis_of ke_i_BadMend), (xis_of ke_i_NoDoor), (xis_of ke_i_BadName), (xis_of ke_i_UnlikeFaces), (xis_of ke_i_Busy), (xis_of ke_i_NotAsked), (xis_of ke_i_Shut), (xis_of ke_i_HandedcopiesError), ke_k_BadDeed, ke_k_BadField, ke_k_BadGoal, ke_k_BadLabel, ke_k_BadLine, ke_k_BadMend, ke_k_BadMethod, ke_k_BadName, ke_k_BadPlace, ke_k_BadRow, ke_k_BadShape, ke_k_BadWhen, ke_k_BadWorld, ke_k_Busy, ke_k_HandedcopiesError, ke_k_LookupError, ke_k_NoClass, ke_k_NoDoor, ke_k_NotAsked, ke_k_RuntimeError, ke_k_Shut, ke_k_TooMany, ke_k_UnlikeFaces, ke_k_ValueError, ⟨_, F_law, fun s v => .of_eq rfl⟩⟩
end K12
set_option pp.maxSteps 40
set_option maxRecDepth 100000
set_option maxHeartbeats 4000000
namespace K12
open PySem L2 MP
abbrev PureLaw : Prop := Holds63 (lev tbl (30 + 1) 7)
theorem law_at {P : Program} {w : World} {K : PySem.W.Frag} {mg : Str → Option Value} {A : Adr} {fa : Addr} (hp : PureLaw) (e : mg "law" = some (.ref fa)) (T : Txt K mg A) : ∃ fd : FuncData, (∀ (s : Shared) (u : Value), BindsTo s fd ⟨[u], []⟩ [("_law_script", u)]) ∧ ∀ base : Heap, FnOk P w K mg base (L2.CX P w) 93 fa fd ["_law_script"] (spL K) := by
  have e2 := T.m_law
  rw [e] at e2
  cases e2
  obtain ⟨fd, F, b⟩ := T.u0
  exact ⟨fd, b, fun base => (fn_okF F sc_law (d_law T (all_fns T 30))).imp (spL_I hp)⟩
end K12
set_option maxRecDepth 100000
set_option maxHeartbeats 4000000
namespace K12
open PySem L2 MP
/-! ### values -/
structure Vl (d : D) : Prop where
  py : ∃ p, (∀ M, toPy M d = some p) ∧ PyData.eqv p p = true ∧ p.canLay0 = true ∧ p.depth ≤ 1
  eq : ∀ M, dEq M d d = some (.bl true)
theorem vl_int (i : Int) : Vl (.int i) := ⟨⟨.int i, fun M => by simp only [toPy], by simp [PyData.eqv], by simp [PyData.canLay0], by simp [PyData.depth]⟩, fun M => by simp [dEq, dEqV, scalD, eqS]⟩
theorem vl_bl (b : Bool) : Vl (.bl b) := ⟨⟨.bool b, fun M => by simp only [toPy], by simp [PyData.eqv], by simp [PyData.canLay0], by simp [PyData.depth]⟩, fun M => by simp [dEq, dEqV, scalD, eqS]⟩
theorem vl_non : Vl .non := ⟨⟨.none, fun M => by simp only [toPy], by simp [PyData.eqv], by simp [PyData.canLay0], by simp [PyData.depth]⟩, fun M => by simp [dEq, dEqV, scalD, eqS]⟩
theorem vl_str {t : Str} (h : PyData.strOk t = true) : Vl (.str t) := ⟨⟨.str t, fun M => by simp only [toPy], by simp [PyData.eqv], by simp [PyData.canLay0, h], by simp [PyData.depth]⟩, fun M => by simp [dEq, dEqV, scalD, eqS]⟩
theorem eq_sh {d : D} {p : PyData} (hs : scalD d d = false) (h : ∀ M, toPy M d = some p) (h1 : PyData.eqv p p = true) (h2 : p.canLay0 = true) (h3 : p.depth ≤ 64) (M : Mem) : dEqV M d d = some true := by
  have sh : SeqAt.shaped p = true := by unfold SeqAt.shaped; rw [h2]; simp [h3]
  simp only [dEqV, hs, h M, sh, h1]
  simp
theorem vl_sh {d : D} {p : PyData} (hs : scalD d d = false) (h : ∀ M, toPy M d = some p) (h1 : PyData.eqv p p = true) (h2 : p.canLay0 = true) (h3 : p.depth ≤ 1) : Vl d := by
  refine ⟨⟨p, h, h1, h2, h3⟩, fun M => ?_⟩
  unfold dEq
  rw [eq_sh hs h h1 h2 (by omega)]
  rfl
theorem vl_tup0 : Vl (.tup []) := vl_sh (p := .tuple []) rfl (fun M => by simp [toPy, toPys]) (by simp [PyData.eqv, PyData.eqvAll]) (by simp [PyData.canLay0, PyData.canLayAll0]) (by simp [PyData.depth, PyData.depthAll])
theorem vl_pair {t : Str} (i : Int) (h : PyData.strOk t = true) : Vl (.tup [.int i, .str t]) := vl_sh (p := .tuple [.int i, .str t]) rfl (fun M => by simp [toPy, toPys]) (by simp [PyData.eqv, PyData.eqvAll]) (by simp [PyData.canLay0, PyData.canLayAll0, h]) (by simp [PyData.depth, PyData.depthAll])
theorem vl_lst {t : Str} (h : PyData.strOk t = true) : Vl (.lst [.str t, .non]) := vl_sh (p := .list [.str t, .none]) rfl (fun M => by simp [toPy, toPys]) (by simp [PyData.eqv, PyData.eqvAll]) (by simp [PyData.canLay0, PyData.canLayAll0, h]) (by simp [PyData.depth, PyData.depthAll])
theorem pys_of : ∀ {xs : List D}, (∀ x ∈ xs, Vl x) → ∃ ps, (∀ M, toPys M xs = some ps) ∧ PyData.eqvAll ps ps = true ∧ PyData.canLayAll0 ps = true ∧ PyData.depthAll ps ≤ 1
  | [], _ => ⟨[], fun M => by simp only [toPys], by simp [PyData.eqvAll], by simp [PyData.canLayAll0], by simp [PyData.depthAll]⟩
  | x :: xs, h => by
    obtain ⟨p, a1, a2, a3, a4⟩ := (h x List.mem_cons_self).py
    obtain ⟨ps, b1, b2, b3, b4⟩ := pys_of fun y hy => h y (List.mem_cons_of_mem _ hy)
    exact ⟨p :: ps, fun M => by simp [toPys, a1 M, b1 M], by simp [PyData.eqvAll, a2, b2], by simp [PyData.canLayAll0, a3, b3], by simp [PyData.depthAll]; omega⟩
theorem ne_self {xs : List D} (h : ∀ x ∈ xs, Vl x) (M : Mem) : dNe M (.lst xs) (.lst xs) = some (.bl false) := by
  obtain ⟨ps, b1, b2, b3, b4⟩ := pys_of h
  unfold dNe
  rw [eq_sh (p := .list ps) rfl (fun M => by simp [toPy, b1 M]) (by simp [PyData.eqv, b2]) (by simp [PyData.canLay0, b3]) (by simp [PyData.depth]; omega)]
  rfl
/-! ### errors -/
theorem errF1 (c f : Str) (a : ES) (Γ : Calls) (ρ : MP.Env) (M : Mem) : eErrF [c] f (eErr c [f] (aCons a aNil)) Γ ρ M = a Γ ρ M := by
  simp only [eErrF, eErr, x_aCons, x_aNil]
  cases a Γ ρ M with
  | ok d M1 => simp [R.bind, R.opt, List.lookup]
  | exc c fs M1 => rfl
  | stuck => rfl
theorem err_ok {c : Str} {fs : List Str} {a : AS} {Γ : Calls} {ρ : MP.Env} {M M1 : Mem} {ds : List D} (h : a Γ ρ M = .ok ds M1) (hl : ds.length = fs.length) : eErr c fs a Γ ρ M = .ok (.err c (fs.zip ds).reverse) M1 := by
  unfold eErr
  rw [h]
  show (if ds.length = fs.length then _ else _) = _
  rw [if_pos hl]
theorem errF_ok {cs : List Str} {c f : Str} {fs : List (Str × D)} {o : ES} {Γ : Calls} {ρ : MP.Env} {M M1 : Mem} {d : D} (h : o Γ ρ M = .ok (.err c fs) M1) (hc : c ∈ cs) (hf : fs.lookup f = some d) : eErrF cs f o Γ ρ M = .ok d M1 := by
  unfold eErrF
  rw [h]
  show (if c ∈ cs then R.opt (fs.lookup f) M1 else .stuck) = _
  rw [if_pos hc, hf]
  rfl
theorem errI_ok {tb : List (Str × Bool)} {c : Str} {fs : List (Str × D)} {o : ES} {Γ : Calls} {ρ : MP.Env} {M M1 : Mem} {b : Bool} (h : o Γ ρ M = .ok (.err c fs) M1) (hb : tb.lookup c = some b) : eErrI tb o Γ ρ M = .ok (.bl b) M1 := by
  unfold eErrI
  rw [h]
  show R.opt ((tb.lookup c).map D.bl) M1 = _
  rw [hb]
  rfl
theorem err0_ok (c : Str) (Γ : Calls) (ρ : MP.Env) (M : Mem) : eErr0 c Γ ρ M = .ok (.err c []) M := rfl
theorem kL3 (a b c : D) (M : Mem) : kLst [a, b, c] M = .ok (.lst [a, b, c]) M := rfl
theorem kL5 (a b c d e : D) (M : Mem) : kLst [a, b, c, d, e] M = .ok (.lst [a, b, c, d, e]) M := rfl
theorem kL10 (a b c d e a' b' c' d' e' : D) (M : Mem) : kLst [a, b, c, d, e, a', b', c', d', e'] M = .ok (.lst [a, b, c, d, e, a', b', c', d', e']) M := rfl
def rowE (x y z : D) : D := .err "BadRow" [("at", z), ("method", y), ("owner", x)]
def metE (x y : D) : D := .err "BadMethod" [("method", y), ("owner", x)]
theorem run_fields (Γ : Calls) (x y z : D) (hx : Vl x) (hy : Vl y) (hz : Vl z) (M : Mem) : runBody sem__law_fields_stand 5 Γ [x, y, z] M = .ok (.bl true) M := by
  have t1 : sAsg (eErr "BadRow" ["owner", "method", "at"] (aCons (eVar 0) (aCons (eVar 1) (aCons (eVar 2) aNil)))) (gN 3) Γ (startD 5 [x, y, z]) M = .next [some x, some y, some z, some (rowE x y z), none] M := rfl
  have t2 : sAsg (eErr "BadMethod" ["owner", "method"] (aCons (eVar 1) (aCons (eVar 2) aNil))) (gN 4) Γ [some x, some y, some z, some (rowE x y z), none] M = .next [some x, some y, some z, some (rowE x y z), some (metE y z)] M := rfl
  have f1 : ∀ M, eErrF ["BadRow"] "owner" (eVar 3) Γ [some x, some y, some z, some (rowE x y z), some (metE y z)] M = .ok x M := fun M => errF_ok rfl (by decide) rfl
  have f2 : ∀ M, eErrF ["BadRow"] "method" (eVar 3) Γ [some x, some y, some z, some (rowE x y z), some (metE y z)] M = .ok y M := fun M => errF_ok rfl (by decide) rfl
  have f3 : ∀ M, eErrF ["BadRow"] "at" (eVar 3) Γ [some x, some y, some z, some (rowE x y z), some (metE y z)] M = .ok z M := fun M => errF_ok rfl (by decide) rfl
  have f4 : ∀ M, eErrF ["BadMethod"] "owner" (eVar 4) Γ [some x, some y, some z, some (rowE x y z), some (metE y z)] M = .ok y M := fun M => errF_ok rfl (by decide) rfl
  have f5 : ∀ M, eErrF ["BadMethod"] "method" (eVar 4) Γ [some x, some y, some z, some (rowE x y z), some (metE y z)] M = .ok z M := fun M => errF_ok rfl (by decide) rfl
  have v : ∀ {xs : List D}, (∀ d ∈ xs, d = x ∨ d = y ∨ d = z) → dNe M (.lst xs) (.lst xs) = some (.bl false) := fun {xs} h => ne_self (fun d hd => by
    rcases h d hd with rfl | rfl | rfl
    · exact hx
    · exact hy
    · exact hz) M
  have n1 := v (xs := [x, y, z]) (by simp)
  have n2 := v (xs := [y, z]) (by simp)
  have n3 := v (xs := [x, y, z, x, y]) (by simp)
  have n4 := v (xs := [z, x, y, z, x]) (by simp)
  have n5 := v (xs := [y, z, x, y, z]) (by simp)
  have n6 := hx.eq M
  rw [body_eq]
  unfold sem__law_fields_stand
  rw [x_seq, t1, andThen_next, x_seq, t2, andThen_next]
  generalize rowE x y z = r at f1 f2 f3 f4 f5
  generalize metE y z = m at f1 f2 f3 f4 f5
  simp [f1, f2, f3, f4, f5, errF1, kL3, kL5, n1, n2, n3, n4, n5, n6]
end K12
set_option maxRecDepth 100000
set_option maxHeartbeats 4000000
namespace K12
open PySem L2 MP
abbrev DrawOk (Γ : Calls) : Prop := ∀ (M : Mem) (n : Int), StM M → 0 < n → n < 2 ^ 64 → ∃ r M', Γ 1 [.ref 1, .int n] M = .ok (.int r) M' ∧ 0 ≤ r ∧ r < n ∧ StM M' ∧ restM M' = restM M
abbrev OfOk (Γ : Calls) : Prop := ∀ (xs : List D) (M : Mem), 0 < xs.length → xs.length < 1000 → StM M → ∃ d M', Γ 2 [.ref 1, .lst xs] M = .ok d M' ∧ d ∈ xs ∧ StM M'
theorem run_of {Γ : Calls} (hd : DrawOk Γ) (xs : List D) (M : Mem) (h0 : 0 < xs.length) (h1 : xs.length < 1000) (hM : StM M) : ∃ d M', runBody sem__law_of 2 Γ [.ref 1, .lst xs] M = .ok d M' ∧ d ∈ xs ∧ StM M' := by
  obtain ⟨r, M1, e1, r0, r1, h2, _⟩ := hd M (xs.length : Int) hM (by omega) (by omega)
  obtain ⟨d, ed, hm⟩ := atI_mem (xs := xs) r0 r1
  refine ⟨d, M1, ?_, hm, h2⟩
  have el : dLen M [.lst xs] = some (.int (xs.length : Int)) := rfl
  have ei : dIx M1 (.lst xs) (.int r) = some d := ed
  rw [body_eq]
  unfold sem__law_of
  simp [el, e1, ei]
def SG : Str := Str.ofString "abz09 [].,"
def sg : List Nat := [97, 98, 122, 48, 57, 32, 91, 93, 46, 44]
theorem sg_tl : TL.tl SG = sg := by decide +kernel
theorem strok_cs {cs : List Nat} (h : ∀ c ∈ cs, c < 1000) : PyData.strOk ⟨cs.toArray⟩ = true := by
  unfold PyData.strOk
  rw [← Array.all_toList]
  refine List.all_eq_true.mpr fun c hc => ?_
  have := h c (by simpa using hc)
  simp
  omega
theorem pw12 (M : Mem) : dPow M (.int 10) (.int 12) = some (.int 1000000000000) := by
  show (if CPow 10 12 then some (D.int (10 ^ (12 : Int).toNat)) else none) = _
  rw [if_pos (by decide)]
  rfl
theorem run_text {Γ : Calls} (hd : DrawOk Γ) (ho : OfOk Γ) (b c : Option D) (n : Int) (M : Mem) (hM : StM M) : ∃ (t : Str) (M' : Mem), sAsg (eJoin (eC (.str "")) (eLc (aRng1 (aCons (eCall 1 (aCons (eVar 0) (aCons (eC (.int 9)) aNil))) aNil)) (gN 4) tYes' (eCall 2 (aCons (eVar 0) (aCons (eB dListS (aCons (eC (.str "abz09 [].,")) aNil)) aNil))) [4])) (gN 2) Γ [some (.ref 1), some (.int n), none, none, none] M = .next [some (.ref 1), some (.int n), some (.str t), none, none] M' ∧ PyData.strOk t = true ∧ t.length ≤ 8 ∧ StM M' := by
  obtain ⟨r, M1, e1, r0, r7, h1, _⟩ := hd M 9 hM (by decide) (by decide)
  have hrng : aRng1 (aCons (eCall 1 (aCons (eVar 0) (aCons (eC (.int 9)) aNil))) aNil) Γ [some (.ref 1), some (.int n), none, none, none] M = .ok (rints 0 r.toNat) M1 :=
    aRng1_okI (by simp [e1]) (by omega) (by omega)
  have hls : ∀ M, dListS M [.str "abz09 [].,"] = some (.lst (sg.map fun c => D.str (chS c))) := fun M => by
    show (if SG.length ≤ sizeLine then some (D.lst (chars SG)) else none) = _
    rw [if_pos (by decide +kernel)]
    show some (D.lst ((TL.tl SG).map fun c => D.str ⟨#[c]⟩)) = _
    rw [sg_tl]
    rfl
  obtain ⟨cs, M2, q2, hc, hl, h2⟩ := lc_draws (el := eCall 2 (aCons (eVar 0) (aCons (eB dListS (aCons (eC (.str "abz09 [].,")) aNil)) aNil))) (Γ := Γ) (ρ := [some (.ref 1), some (.int n), none, none, none]) (i := 4) (g := fun c => D.str (chS c)) (P := fun c => c ∈ sg) (I := StM)
    (fun d M' hM' => by
      obtain ⟨x, M3, e3, hm, h3⟩ := ho (sg.map fun c => D.str (chS c)) M' (by decide) (by decide) hM'
      obtain ⟨c, hc, rfl⟩ := List.mem_map.mp hm
      refine ⟨c, M3, ?_, hc, h3⟩
      have hl2 := hls M'
      generalize D.lst (sg.map fun c => D.str (chS c)) = LL at hl2 e3
      simp [hl2, e3]) (rints 0 r.toNat) M1 h1
  have hlen : cs.length ≤ 8 := by rw [hl]; simp [rints]; omega
  have k2 := kLc_eq _ _ _ (show (rints 0 r.toNat).length ≤ sizeLine from Nat.le_trans (show _ ≤ 8 by simp [rints]; omega) (by decide)) q2
  have j2 : dJoin (Str.ofString "") M2 (.lst (cs.map fun c => D.str (chS c))) = some (.str ⟨cs.toArray⟩) := by
    rw [join_lst, asStrs_mapF, Option.bind_some, if_pos, join_signs]
    have hs : ((cs.map chS).map fun y : Str => y.length).sum = cs.length := by
      clear q2 hc hl hlen k2
      induction cs with
      | nil => rfl
      | cons c cs ih => rw [List.map_cons, List.map_cons, List.sum_cons, ih, show (chS c).length = 1 from rfl, List.length_cons]; omega
    rw [hs, show (Str.ofString "").length = 0 from by decide +kernel]
    simp
    omega
  have ok : PyData.strOk ⟨cs.toArray⟩ = true := strok_cs fun c h => by
    have := hc c h
    simp only [sg, List.mem_cons, List.not_mem_nil, or_false] at this
    omega
  have wl : (⟨cs.toArray⟩ : Str).length = cs.length := by simp [Str.length]
  generalize hw : (⟨cs.toArray⟩ : Str) = dr at j2 ok wl
  exact ⟨dr, M2, by simp [-x_rng1, -join_lst, hrng, k2, j2], ok, by omega, h2⟩
theorem seen_ok {t : Str} (h : PyData.strOk t = true) : PyData.strOk (Str.ofString "seen " ++ t) = true := by
  have h0 : ∀ c ∈ TL.tl (Str.ofString "seen "), c < 1114112 := by decide +kernel
  have h1 : ∀ c ∈ TL.tl t, c < 1114112 := fun c hc => by
    unfold PyData.strOk at h
    rw [← Array.all_toList] at h
    simpa using List.all_eq_true.mp h c hc
  unfold PyData.strOk
  rw [← Array.all_toList]
  refine List.all_eq_true.mpr fun c hc => ?_
  have hc' : c ∈ TL.tl (Str.ofString "seen " ++ t) := hc
  rw [TL.tl_append] at hc'
  rcases List.mem_append.mp hc' with q | q
  · simpa using h0 c q
  · simpa using h1 c q
theorem run_value {Γ : Calls} (hd : DrawOk Γ) (ho : OfOk Γ) (M : Mem) (hM : StM M) : ∃ d M', runBody sem__law_value 5 Γ [.ref 1] M = .ok d M' ∧ Vl d ∧ StM M' := by
  obtain ⟨r, M1, e1, _, _, h1, _⟩ := hd M 1000000000000 hM (by decide) (by decide)
  obtain ⟨r2, M2, e2, _, _, h2, _⟩ := hd M1 1000 h1 (by decide) (by decide)
  have t1 : sAsg (MP.e2 dSub (eCall 1 (aCons (eVar 0) (aCons (MP.e2 dPow (eC (.int 10)) (eC (.int 12))) aNil))) (eCall 1 (aCons (eVar 0) (aCons (eC (.int 1000)) aNil)))) (gN 1) Γ (startD 5 [.ref 1]) M = .next [some (.ref 1), some (.int (r - r2)), none, none, none] M2 := by
    simp [pw12, e1, e2]
  obtain ⟨t, M3, t2, tk, tl, h3⟩ := run_text hd ho none none (r - r2) M2 h2
  generalize r - r2 = n at t1 t2
  let xs : List D := [.int n, .str t, .tup [.int n, .str t], .lst [.str t, .non], .non, .bl true, .bl false, .tup [], .int (-1), .str (Str.ofString "seen " ++ t)]
  have hv : ∀ d ∈ xs, Vl d := by
    intro d hd
    simp only [xs, List.mem_cons, List.not_mem_nil, or_false] at hd
    rcases hd with rfl | rfl | rfl | rfl | rfl | rfl | rfl | rfl | rfl | rfl
    · exact vl_int _
    · exact vl_str tk
    · exact vl_pair _ tk
    · exact vl_lst tk
    · exact vl_non
    · exact vl_bl _
    · exact vl_bl _
    · exact vl_tup0
    · exact vl_int _
    · exact vl_str (seen_ok tk)
  have hz : (Str.ofString "seen ").length + t.length ≤ sizeLine := Nat.le_trans (show _ ≤ 13 by rw [show (Str.ofString "seen ").length = 5 from by decide +kernel]; omega) (by decide)
  have t3 : sAsg (eLst (aCons (eVar 1) (aCons (eVar 2) (aCons (eTup (aCons (eVar 1) (aCons (eVar 2) aNil))) (aCons (eLst (aCons (eVar 2) (aCons (eC .non) aNil))) (aCons (eC .non) (aCons (eC (.bl true)) (aCons (eC (.bl false)) (aCons (eTup aNil) (aCons (eNeg (eC (.int 1))) (aCons (MP.e2 dAdd (eC (.str "seen ")) (eVar 2)) aNil))))))))))) (gN 3) Γ [some (.ref 1), some (.int n), some (.str t), none, none] M3 = .next [some (.ref 1), some (.int n), some (.str t), some (.lst xs), none] M3 := by
    simp [xs, hz, kL10]
  obtain ⟨d, M4, e4, hm, h4⟩ := ho xs M3 (by simp [xs]) (by simp [xs]) h3
  refine ⟨d, M4, ?_, hv d hm, h4⟩
  rw [body_eq]
  unfold sem__law_value
  rw [x_seq, t1, andThen_next, x_seq, t2, andThen_next, x_seq, t3, andThen_next]
  generalize D.lst xs = LL at e4
  simp [e4]
end K12
set_option maxRecDepth 100000
set_option maxHeartbeats 4000000
namespace K12
open PySem L2 MP
def nms : List Str := ["BadShape", "BadLine", "NoClass", "BadField", "TooMany", "BadRow", "BadMethod", "BadDeed", "BadPlace", "BadWorld", "BadLabel", "BadGoal", "BadWhen", "BadMend", "NoDoor", "BadName", "UnlikeFaces", "Busy", "NotAsked", "Shut"]
def T1 : List (List (Str × Bool)) := [TI_BadShape, TI_BadLine, TI_NoClass, TI_BadField, TI_TooMany, TI_BadRow, TI_BadMethod, TI_BadDeed, TI_BadPlace, TI_BadWorld]
def T2 : List (List (Str × Bool)) := [TI_BadLabel, TI_BadGoal, TI_BadWhen, TI_BadMend, TI_NoDoor, TI_BadName, TI_UnlikeFaces, TI_Busy, TI_NotAsked, TI_Shut]
def lk (tb : List (Str × Bool)) (c : Str) : Bool := (tb.lookup c).getD false
theorem lk_ok : ∀ tb ∈ T1 ++ (T2 ++ [TI_HandedcopiesError, TI_ValueError, TI_RuntimeError, TI_LookupError]), ∀ c ∈ nms, tb.lookup c = some (lk tb c) := by decide +kernel
theorem bits_ok : ∀ j ∈ List.range 20, (T1 ++ T2).map (fun tb => lk tb (nms.getD j "")) = (List.range 20).map fun i => decide (i = j) := by decide +kernel
theorem own_ok : ∀ j ∈ List.range 20, lk TI_HandedcopiesError (nms.getD j "") = decide (j < 17) ∧ lk TI_ValueError (nms.getD j "") = decide (j < 17) ∧ lk TI_RuntimeError (nms.getD j "") = !decide (j < 17) ∧ lk TI_LookupError (nms.getD j "") = false := by decide +kernel
theorem mem_ok : ∀ j ∈ List.range 20, nms.getD j "" ∈ nms := by decide +kernel
def bls (T : List (List (Str × Bool))) (c : Str) : List D := T.map fun tb => .bl (lk tb c)
theorem errI_v {tb : List (Str × Bool)} (ht : tb ∈ T1 ++ (T2 ++ [TI_HandedcopiesError, TI_ValueError, TI_RuntimeError, TI_LookupError])) {c : Str} (hc : c ∈ nms) {fs : List (Str × D)} {o : ES} {Γ : Calls} {ρ : MP.Env} {M M1 : Mem} (h : o Γ ρ M = .ok (.err c fs) M1) : eErrI tb o Γ ρ M = .ok (.bl (lk tb c)) M1 := errI_ok h (lk_ok tb ht c hc)
theorem aCons_ok {a : ES} {r : AS} {Γ : Calls} {ρ : MP.Env} {M M1 M2 : Mem} {d : D} {ds : List D} (h : a Γ ρ M = .ok d M1) (h' : r Γ ρ M1 = .ok ds M2) : aCons a r Γ ρ M = .ok (d :: ds) M2 := by
  simp [h, h']
def aI : List (List (Str × Bool)) → AS
  | [] => aNil
  | tb :: T => aCons (eErrI tb (eVar 0)) (aI T)
theorem aI_ok {Γ : Calls} {c : Str} {fs : List (Str × D)} (hc : c ∈ nms) (M : Mem) : ∀ T : List (List (Str × Bool)), (∀ tb ∈ T, tb ∈ T1 ++ (T2 ++ [TI_HandedcopiesError, TI_ValueError, TI_RuntimeError, TI_LookupError])) → aI T Γ [some (.err c fs)] M = .ok (bls T c) M
  | [], _ => rfl
  | tb :: T, h => aCons_ok (errI_v (h tb List.mem_cons_self) hc rfl) (aI_ok hc M T fun t ht => h t (List.mem_cons_of_mem _ ht))
theorem sem_first' : sem__law_first = sRet (eLst (aI T1)) := rfl
theorem sem_second' : sem__law_second = sRet (eLst (aI T2)) := rfl
theorem run_first (Γ : Calls) {c : Str} (hc : c ∈ nms) (fs : List (Str × D)) (M : Mem) : runBody sem__law_first 1 Γ [.err c fs] M = .ok (.lst (bls T1 c)) M := by
  have h : aI T1 Γ [some (.err c fs)] M = .ok (bls T1 c) M := aI_ok hc M T1 fun tb h => List.mem_append_left _ h
  have hl : (bls T1 c).length ≤ sizeLine := by simp only [bls, List.length_map]; decide
  rw [body_eq, sem_first']
  simp [h, kLst_ok M hl]
theorem run_second (Γ : Calls) {c : Str} (hc : c ∈ nms) (fs : List (Str × D)) (M : Mem) : runBody sem__law_second 1 Γ [.err c fs] M = .ok (.lst (bls T2 c)) M := by
  have h : aI T2 Γ [some (.err c fs)] M = .ok (bls T2 c) M := aI_ok hc M T2 fun tb h => List.mem_append_right _ (List.mem_append_left _ h)
  have hl : (bls T2 c).length ≤ sizeLine := by simp only [bls, List.length_map]; decide
  rw [body_eq, sem_second']
  simp [h, kLst_ok M hl]
structure Lb (Γ : Calls) : Prop where
  start : ∀ ns : List Int, ns.length ≤ 63 → ∃ M, Γ 0 [.scr (ns.map D.int)] [] = .ok (.ref 1) M ∧ StM M
  value : ∀ M, StM M → ∃ d M', Γ 3 [.ref 1] M = .ok d M' ∧ Vl d ∧ StM M'
  fields : ∀ x y z, Vl x → Vl y → Vl z → ∀ M, Γ 4 [x, y, z] M = .ok (.bl true) M
  first : ∀ c ∈ nms, ∀ fs M, Γ 5 [.err c fs] M = .ok (.lst (bls T1 c)) M
  second : ∀ c ∈ nms, ∀ fs M, Γ 6 [.err c fs] M = .ok (.lst (bls T2 c)) M
theorem draw_ok (k : Nat) : DrawOk (lev tbl (k + 1)) := fun M n h hn hn2 => run_draw (lev tbl k) M n h hn hn2
theorem of_ok (k : Nat) : OfOk (lev tbl (k + 2)) := fun xs M h0 h1 hM => run_of (draw_ok k) xs M h0 h1 hM
theorem lb (k : Nat) : Lb (lev tbl (k + 3)) where
  start := fun ns h => by
    obtain ⟨M, e, h1, _⟩ := run_start (lev tbl (k + 2)) ns h
    exact ⟨M, e, h1⟩
  value := fun M hM => run_value (draw_ok (k + 1)) (of_ok k) M hM
  fields := fun x y z hx hy hz M => run_fields _ x y z hx hy hz M
  first := fun c hc fs M => run_first _ hc fs M
  second := fun c hc fs M => run_second _ hc fs M
def bodyE : SS := (sSeq (sIf (tVal (e2 dNe (e2 dAdd (eCall 5 (aCons (eVar 8) aNil)) (eCall 6 (aCons (eVar 8) aNil))) (eLc (aRng1 (aCons (eC (.int 20)) aNil)) (gN 10) tYes' (e2 dEq (eVar 10) (eVar 7)) [10]))) (sRet (eC (.bl false))) sNil)
  (sSeq (sAsg (e2 dLt (eVar 7) (eC (.int 17))) (gN 9))
  (sSeq (sIf (tOr' (tVal (e2 dNe (eErrI TI_HandedcopiesError (eVar 8)) (eVar 9))) (tVal (e2 dNe (eErrI TI_ValueError (eVar 8)) (eVar 9)))) (sRet (eC (.bl false))) sNil)
  (sIf (tOr' (tVal (e2 dEq (eErrI TI_RuntimeError (eVar 8)) (eVar 9))) (tTruth (eErrI TI_LookupError (eVar 8)))) (sRet (eC (.bl false))) sNil))))
theorem ne_bl (M : Mem) (b : Bool) : dNe M (.bl b) (.bl b) = some (.bl false) := by
  cases b <;> rfl
theorem eq_nbl (M : Mem) (b : Bool) : dEq M (.bl !b) (.bl b) = some (.bl false) := by
  cases b <;> rfl
theorem bits_D {j : Nat} (hj : j < 20) : bls T1 (nms.getD j "") ++ bls T2 (nms.getD j "") = (List.range 20).map fun i : Nat => D.bl (decide ((i : Int) = (j : Int))) := by
  have := bits_ok j (List.mem_range.mpr hj)
  have e : bls T1 (nms.getD j "") ++ bls T2 (nms.getD j "") = ((T1 ++ T2).map (fun tb => lk tb (nms.getD j ""))).map D.bl := by
    rw [List.map_map, List.map_append]; rfl
  rw [e, this, List.map_map]
  refine List.map_congr_left fun i _ => ?_
  show D.bl (decide (i = j)) = _
  congr 1
  exact decide_eq_decide.mpr Int.ofNat_inj.symm
theorem turnE {Γ : Calls} (L : Lb Γ) (j : Nat) (hj : j < 20) (fs : List (Str × D)) (s t x y z r x9 x10 : Option D) (t1 : Option D) (M : Mem) :
    bodyE Γ [s, t1, t, x, y, z, r, some (.int (j : Int)), some (.err (nms.getD j "") fs), x9, none] M = .next [s, t1, t, x, y, z, r, some (.int (j : Int)), some (.err (nms.getD j "") fs), some (.bl (decide (j < 17))), none] M := by
  have hc := mem_ok j (List.mem_range.mpr hj)
  obtain ⟨o1, o2, o3, o4⟩ := own_ok j (List.mem_range.mpr hj)
  have hb := bits_D hj
  generalize nms.getD j "" = c at hc o1 o2 o3 o4 hb
  have f1 := L.first c hc fs M
  have f2 := L.second c hc fs M
  have ad : dAdd M (.lst (bls T1 c)) (.lst (bls T2 c)) = some (.lst (bls T1 c ++ bls T2 c)) := by
    rw [i_addL, if_pos (by simp only [bls, List.length_map]; decide)]
  have q := lc_mapF (el := e2 dEq (eVar 10) (eVar 7)) (Γ := Γ) (ρ := [s, t1, t, x, y, z, r, some (.int (j : Int)), some (.err c fs), x9, none]) (i := 10) (f := fun i : Nat => D.int (i : Int)) (g := fun i : Nat => D.bl (decide ((i : Int) = (j : Int)))) (M := M) (List.range 20) (fun i _ => by
    have : dEq M (.int (i : Int)) (.int (j : Int)) = some (.bl (decide ((i : Int) = (j : Int)))) := rfl
    simp [this])
  have r20 : aRng1 (aCons (eC (.int 20)) aNil) Γ [s, t1, t, x, y, z, r, some (.int (j : Int)), some (.err c fs), x9, none] M = .ok ((List.range 20).map fun i : Nat => D.int (i : Int)) M := rfl
  have k1 := kLc_eq _ _ _ (show ((List.range 20).map fun i : Nat => D.int (i : Int)).length ≤ sizeLine by simp only [List.length_map, List.length_range]; decide) q
  rw [← hb] at k1
  have ns := ne_self (xs := bls T1 c ++ bls T2 c) (fun d hd => by
    rcases List.mem_append.mp hd with hd | hd <;> obtain ⟨tb, _, rfl⟩ := List.mem_map.mp hd <;> exact vl_bl _) M
  have g : ∀ {tb : List (Str × Bool)} (ht : tb ∈ T1 ++ (T2 ++ [TI_HandedcopiesError, TI_ValueError, TI_RuntimeError, TI_LookupError])) (w : Option D) (M : Mem), eErrI tb (eVar 8) Γ [s, t1, t, x, y, z, r, some (.int (j : Int)), some (.err c fs), w, none] M = .ok (.bl (lk tb c)) M := fun ht w M => errI_v ht hc rfl
  have g1 := g (tb := TI_HandedcopiesError) (by simp)
  have g2 := g (tb := TI_ValueError) (by simp)
  have g3 := g (tb := TI_RuntimeError) (by simp)
  have g4 := g (tb := TI_LookupError) (by simp)
  rw [o1] at g1
  rw [o2] at g2
  rw [o3] at g3
  rw [o4] at g4
  have lt : dLt M (.int (j : Int)) (.int 17) = some (.bl (decide (j < 17))) := by
    have e : dLt M (.int (j : Int)) (.int 17) = some (.bl (decide ((j : Int) < 17))) := rfl
    rw [e]
    congr 2
    exact decide_eq_decide.mpr (by omega)
  generalize D.lst (bls T1 c ++ bls T2 c) = LS at ad k1 ns
  generalize D.lst (bls T1 c) = L1 at ad f1
  generalize D.lst (bls T2 c) = L2 at ad f2
  generalize ((List.range 20).map fun i : Nat => D.int (i : Int)) = RR at r20 k1
  generalize D.err c fs = E at f1 f2 r20 k1 g1 g2 g3 g4 ⊢
  have n1 := ne_bl M (decide (j < 17))
  have n2 := eq_nbl M (decide (j < 17))
  generalize decide (j < 17) = b at g1 g2 g3 lt n1 n2 ⊢
  have u1 : sIf (tVal (e2 dNe (e2 dAdd (eCall 5 (aCons (eVar 8) aNil)) (eCall 6 (aCons (eVar 8) aNil))) (eLc (aRng1 (aCons (eC (.int 20)) aNil)) (gN 10) tYes' (e2 dEq (eVar 10) (eVar 7)) [10]))) (sRet (eC (.bl false))) sNil Γ [s, t1, t, x, y, z, r, some (.int (j : Int)), some E, x9, none] M = .next [s, t1, t, x, y, z, r, some (.int (j : Int)), some E, x9, none] M := by
    simp [-x_rng1, f1, f2, ad, r20, k1, ns]
  have u2 : sAsg (e2 dLt (eVar 7) (eC (.int 17))) (gN 9) Γ [s, t1, t, x, y, z, r, some (.int (j : Int)), some E, x9, none] M = .next [s, t1, t, x, y, z, r, some (.int (j : Int)), some E, some (.bl b), none] M := by
    simp [lt]
  have u3 : sIf (tOr' (tVal (e2 dNe (eErrI TI_HandedcopiesError (eVar 8)) (eVar 9))) (tVal (e2 dNe (eErrI TI_ValueError (eVar 8)) (eVar 9)))) (sRet (eC (.bl false))) sNil Γ [s, t1, t, x, y, z, r, some (.int (j : Int)), some E, some (.bl b), none] M = .next [s, t1, t, x, y, z, r, some (.int (j : Int)), some E, some (.bl b), none] M := by
    simp [g1, g2, n1]
  have u4 : sIf (tOr' (tVal (e2 dEq (eErrI TI_RuntimeError (eVar 8)) (eVar 9))) (tTruth (eErrI TI_LookupError (eVar 8)))) (sRet (eC (.bl false))) sNil Γ [s, t1, t, x, y, z, r, some (.int (j : Int)), some E, some (.bl b), none] M = .next [s, t1, t, x, y, z, r, some (.int (j : Int)), some E, some (.bl b), none] M := by
    simp [g3, g4, n2]
  unfold bodyE
  rw [x_seq, u1, andThen_next, x_seq, u2, andThen_next, x_seq, u3, andThen_next, u4]
end K12
set_option maxRecDepth 100000
set_option maxHeartbeats 4000000
namespace K12
open PySem L2 MP
theorem ext_ok {i k b : Nat} {a : ES} {Γ : Calls} {ρ : MP.Env} {M M1 M2 : Mem} (hρ : ρ[i]? = some (some (.ref k))) (ha : a Γ ρ M = .ok (.ref b) M1) (he : extM k b M1 = some M2) : sExt i a Γ ρ M = .next (ρ.set i (some (.ref k))) M2 := by
  unfold sExt
  rw [hρ]
  dsimp only
  rw [ha]
  show kExt i k ρ (.ref b) M1 = _
  unfold kExt
  dsimp only
  rw [he]
def A1 : AS := (aCons (eErr "BadShape" ["text"] (aCons (eVar 3) aNil)) (aCons (eErr "BadLine" ["at"] (aCons (eVar 4) aNil)) (aCons (eErr "NoClass" ["name"] (aCons (eVar 5) aNil)) (aCons (eErr "BadField" ["name"] (aCons (eVar 3) aNil)) (aCons (eErr "TooMany" ["what"] (aCons (eVar 4) aNil)) (aCons (eErr "BadRow" ["owner", "method", "at"] (aCons (eVar 3) (aCons (eVar 4) (aCons (eVar 5) aNil)))) aNil))))))
def A2 : AS := (aCons (eErr "BadMethod" ["owner", "method"] (aCons (eVar 4) (aCons (eVar 5) aNil))) (aCons (eErr "BadDeed" ["deed"] (aCons (eVar 5) aNil)) aNil))
def A3 : AS := (aCons (eErr "BadPlace" ["place"] (aCons (eVar 3) aNil)) (aCons (eErr "BadWorld" ["form"] (aCons (eVar 4) aNil)) (aCons (eErr "BadLabel" ["label"] (aCons (eVar 5) aNil)) (aCons (eErr "BadGoal" ["goal"] (aCons (eVar 3) aNil)) (aCons (eErr "BadWhen" ["when"] (aCons (eVar 4) aNil)) (aCons (eErr "BadMend" ["at"] (aCons (eVar 5) aNil)) (aCons (eErr "NoDoor" ["door"] (aCons (eVar 3) aNil)) (aCons (eErr "BadName" ["name"] (aCons (eVar 4) aNil)) aNil))))))))
def A4 : AS := (aCons (eErr "UnlikeFaces" ["method"] (aCons (eVar 5) aNil)) (aCons (eErr0 "Busy") (aCons (eErr0 "NotAsked") (aCons (eErr "Shut" ["method"] (aCons (eVar 3) aNil)) aNil))))
def S1 : SS := (sAsg (eLc (aRng1 (aCons (eC (.int 3)) aNil)) (gN 10) tYes' (eCall 3 (aCons (eVar 1) aNil)) [10]) (gLstD 3 (gsCons (gN 3) (gsCons (gN 4) (gsCons (gN 5) gsNil')))))
def S2 : SS := (sIf (tNot' (tTruth (eCall 4 (aCons (eVar 3) (aCons (eVar 4) (aCons (eVar 5) aNil)))))) (sRet (eC (.bl false))) sNil)
def S7 : SS := (sFor (aEnumZ (aCons (eVar 6) aNil)) (gTupD 2 (gsCons (gN 7) (gsCons (gN 8) gsNil'))) bodyE)
def turnB : SS := (sSeq S1 (sSeq S2 (sSeq (sAsg (eLstM A1) (gN 6)) (sSeq (sExt 6 (eLstM A2)) (sSeq (sExt 6 (eLstM A3)) (sSeq (sExt 6 (eLstM A4)) S7))))))
theorem sem_law' : sem_law = (sSeq (sAsg (eCall 0 (aCons (eVar 0) aNil)) (gN 1)) (sSeq (sFor (aRng1 (aCons (eC (.int 4)) aNil)) (gN 2) turnB) (sRet (eAnd (eErrI TI_ValueError (eErr0 "HandedcopiesError")) (eNot (eErrI TI_BadLine (eErr0 "HandedcopiesError"))))))) := rfl
def L1 (x y z : D) : List D := [.err "BadShape" [("text", x)], .err "BadLine" [("at", y)], .err "NoClass" [("name", z)], .err "BadField" [("name", x)], .err "TooMany" [("what", y)], .err "BadRow" [("at", z), ("method", y), ("owner", x)]]
def L2 (x y z : D) : List D := [.err "BadMethod" [("method", z), ("owner", y)], .err "BadDeed" [("deed", z)]]
def L3 (x y z : D) : List D := [.err "BadPlace" [("place", x)], .err "BadWorld" [("form", y)], .err "BadLabel" [("label", z)], .err "BadGoal" [("goal", x)], .err "BadWhen" [("when", y)], .err "BadMend" [("at", z)], .err "NoDoor" [("door", x)], .err "BadName" [("name", y)]]
def L4 (x y z : D) : List D := [.err "UnlikeFaces" [("method", z)], .err "Busy" [], .err "NotAsked" [], .err "Shut" [("method", x)]]
def okP (d : D) : Prop := ∃ j : Nat, j < 20 ∧ ∃ fs, d = .tup [.int (j : Int), .err (nms.getD j "") fs]
theorem pairs_ok (x y z : D) : ∀ d ∈ pairsFrom 0 (((L1 x y z ++ L2 x y z) ++ L3 x y z) ++ L4 x y z), okP d := by
  intro d hd
  simp only [L1, L2, L3, L4, List.cons_append, List.nil_append, pairsFrom, List.mem_cons, List.not_mem_nil, or_false] at hd
  rcases hd with rfl | rfl | rfl | rfl | rfl | rfl | rfl | rfl | rfl | rfl | rfl | rfl | rfl | rfl | rfl | rfl | rfl | rfl | rfl | rfl
  · exact ⟨0, by decide, _, rfl⟩
  · exact ⟨1, by decide, _, rfl⟩
  · exact ⟨2, by decide, _, rfl⟩
  · exact ⟨3, by decide, _, rfl⟩
  · exact ⟨4, by decide, _, rfl⟩
  · exact ⟨5, by decide, _, rfl⟩
  · exact ⟨6, by decide, _, rfl⟩
  · exact ⟨7, by decide, _, rfl⟩
  · exact ⟨8, by decide, _, rfl⟩
  · exact ⟨9, by decide, _, rfl⟩
  · exact ⟨10, by decide, _, rfl⟩
  · exact ⟨11, by decide, _, rfl⟩
  · exact ⟨12, by decide, _, rfl⟩
  · exact ⟨13, by decide, _, rfl⟩
  · exact ⟨14, by decide, _, rfl⟩
  · exact ⟨15, by decide, _, rfl⟩
  · exact ⟨16, by decide, _, rfl⟩
  · exact ⟨17, by decide, _, rfl⟩
  · exact ⟨18, by decide, _, rfl⟩
  · exact ⟨19, by decide, _, rfl⟩
theorem for_inv {g : GS} {b : SS} {Γ : Calls} {P : MP.Env → Prop} {ok : D → Prop} {M : Mem} (h : ∀ d ρ, ok d → P ρ → ∃ ρ1 ρ2, g M d ρ = some ρ1 ∧ b Γ ρ1 M = .next ρ2 M ∧ P ρ2) : ∀ (ds : List D) (ρ : MP.Env), (∀ d ∈ ds, ok d) → P ρ → ∃ ρ', forL g b Γ ds ρ M = .next ρ' M ∧ P ρ'
  | [], ρ, _, hp => ⟨ρ, rfl, hp⟩
  | d :: ds, ρ, ho, hp => by
    obtain ⟨ρ1, ρ2, e1, e2, p2⟩ := h d ρ (ho d List.mem_cons_self) hp
    obtain ⟨ρ', e3, p3⟩ := for_inv h ds ρ2 (fun x hx => ho x (List.mem_cons_of_mem _ hx)) p2
    refine ⟨ρ', ?_, p3⟩
    rw [for_cons, e1, asgG_some, andThen_next, kForB_eq, e2, loop_next, e3]
def Pv (s : D) (ρ : MP.Env) : Prop := ∃ t x y z r a b c, ρ = [some s, some (.ref 1), t, x, y, z, r, a, b, c, none]
theorem loopE {Γ : Calls} (L : Lb Γ) (s : D) (ds : List D) (h : ∀ d ∈ ds, okP d) (ρ : MP.Env) (hp : Pv s ρ) (M : Mem) : ∃ ρ', forL (gTupD 2 (gsCons (gN 7) (gsCons (gN 8) gsNil'))) bodyE Γ ds ρ M = .next ρ' M ∧ Pv s ρ' := by
  refine for_inv (ok := okP) (fun d ρ hd hp => ?_) ds ρ h hp
  obtain ⟨j, hj, fs, rfl⟩ := hd
  obtain ⟨t, x, y, z, r, a, b, c, rfl⟩ := hp
  refine ⟨[some s, some (.ref 1), t, x, y, z, r, some (.int (j : Int)), some (.err (nms.getD j "") fs), c, none], _, rfl, turnE L j hj fs (some s) t x y z r c none (some (.ref 1)) M, ?_⟩
  exact ⟨_, _, _, _, _, _, _, _, rfl⟩
theorem drawn {Γ : Calls} (L : Lb Γ) (s : D) (t x0 y0 z0 r a b c : Option D) (M : Mem) (hM : StM M) : ∃ x y z M', S1 Γ [some s, some (.ref 1), t, x0, y0, z0, r, a, b, c, none] M = .next [some s, some (.ref 1), t, some x, some y, some z, r, a, b, c, none] M' ∧ Vl x ∧ Vl y ∧ Vl z ∧ StM M' := by
  have r3 : ∀ ρ M, aRng1 (aCons (eC (.int 3)) aNil) Γ ρ M = .ok (rints 0 3) M := fun ρ M => aRng1_ok (n := 3) rfl (by decide)
  obtain ⟨xs, M', e, hv, hl, hM'⟩ := lc_draws (el := eCall 3 (aCons (eVar 1) aNil)) (Γ := Γ) (ρ := [some s, some (.ref 1), t, x0, y0, z0, r, a, b, c, none]) (i := 10) (g := fun d : D => d) (P := Vl) (I := StM)
    (fun d M' hM' => by
      obtain ⟨w, M2, e2, hw, h2⟩ := L.value M' hM'
      exact ⟨w, M2, by simp [e2], hw, h2⟩) (rints 0 3) M hM
  have hl3 : xs.length = 3 := by rw [hl]; rfl
  have k1 := kLc_eq _ _ _ (show (rints 0 3).length ≤ sizeLine by decide) e
  rw [show xs.map (fun d : D => d) = xs from by simp] at k1
  match xs, hl3 with
  | [x, y, z], _ =>
    refine ⟨x, y, z, M', ?_, hv x (by simp), hv y (by simp), hv z (by simp), hM'⟩
    have g : gLstD 3 (gsCons (gN 3) (gsCons (gN 4) (gsCons (gN 5) gsNil'))) M' (.lst [x, y, z]) [some s, some (.ref 1), t, x0, y0, z0, r, a, b, c, none] = some [some s, some (.ref 1), t, some x, some y, some z, r, a, b, c, none] := rfl
    generalize D.lst [x, y, z] = LL at k1 g
    simp [S1, -x_rng1, r3, k1, g]
theorem turn_ok {Γ : Calls} (L : Lb Γ) (s : D) (ρ : MP.Env) (hp : Pv s ρ) (M : Mem) (hM : StM M) : ∃ ρ' M', turnB Γ ρ M = .next ρ' M' ∧ Pv s ρ' ∧ StM M' := by
  obtain ⟨t, x0, y0, z0, r, a, b, c, rfl⟩ := hp
  obtain ⟨x, y, z, M1, e1, hx, hy, hz, h1⟩ := drawn L s t x0 y0 z0 r a b c M hM
  have f := L.fields x y z hx hy hz M1
  have t2 : S2 Γ [some s, some (.ref 1), t, some x, some y, some z, r, a, b, c, none] M1 = .next [some s, some (.ref 1), t, some x, some y, some z, r, a, b, c, none] M1 := by
    simp [S2, f]
  have t3 : sAsg (eLstM A1) (gN 6) Γ [some s, some (.ref 1), t, some x, some y, some z, r, a, b, c, none] M1 = .next [some s, some (.ref 1), t, some x, some y, some z, some (.ref M1.length), a, b, c, none] (M1 ++ [.lst (L1 x y z)]) := rfl
  have hm : ∀ (A : AS) (ys : List D) (xs : List D) (X : Mem), (∀ M, A Γ [some s, some (.ref 1), t, some x, some y, some z, some (.ref M1.length), a, b, c, none] M = .ok ys M) → xs.length + ys.length ≤ 100 → sExt 6 (eLstM A) Γ [some s, some (.ref 1), t, some x, some y, some z, some (.ref M1.length), a, b, c, none] (M1 ++ .lst xs :: X) = .next [some s, some (.ref 1), t, some x, some y, some z, some (.ref M1.length), a, b, c, none] (M1 ++ .lst (xs ++ ys) :: (X ++ [.lst ys])) := by
    intro A ys xs X hA hl
    have sz : ∀ n, n ≤ 100 → n ≤ sizeLine := fun n h => Nat.le_trans h (by decide)
    refine ext_ok (i := 6) (k := M1.length) (b := (M1 ++ .lst xs :: X).length) (M1 := (M1 ++ .lst xs :: X) ++ [.lst ys]) rfl ?_ ?_
    · rw [x_lstM, hA, bind_ok, kLstM_ok _ (sz _ (by omega))]
    · unfold extM
      have h1 : ((M1 ++ MO.lst xs :: X) ++ [MO.lst ys])[M1.length]? = some (.lst xs) := by
        rw [List.append_assoc, List.getElem?_append_right (Nat.le_refl _), Nat.sub_self]; rfl
      have h2 : ((M1 ++ MO.lst xs :: X) ++ [MO.lst ys])[(M1 ++ MO.lst xs :: X).length]? = some (.lst ys) := by
        rw [List.getElem?_append_right (Nat.le_refl _), Nat.sub_self]; rfl
      rw [h1, h2]
      dsimp only
      rw [if_pos (sz _ hl), List.append_assoc, List.set_append_right _ _ (Nat.le_refl _), Nat.sub_self]
      rfl
  have t4 := hm A2 (L2 x y z) (L1 x y z) [] (fun M => rfl) (by simp [L1, L2])
  have t5 := hm A3 (L3 x y z) (L1 x y z ++ L2 x y z) ([] ++ [.lst (L2 x y z)]) (fun M => rfl) (by simp [L1, L2, L3])
  have t6 := hm A4 (L4 x y z) ((L1 x y z ++ L2 x y z) ++ L3 x y z) (([] ++ [.lst (L2 x y z)]) ++ [.lst (L3 x y z)]) (fun M => rfl) (by simp [L1, L2, L3, L4])
  have hok := pairs_ok x y z
  generalize L1 x y z = l1 at t3 t4 t5 t6 hok
  generalize L2 x y z = l2 at t4 t5 t6 hok
  generalize L3 x y z = l3 at t5 t6 hok
  generalize L4 x y z = l4 at t6 hok
  generalize hX : (([] ++ [MO.lst l2]) ++ [MO.lst l3]) ++ [MO.lst l4] = X at t6
  generalize ((l1 ++ l2) ++ l3) ++ l4 = ll at t6 hok
  obtain ⟨ρ', e7, hp'⟩ := loopE L s (pairsFrom 0 ll) hok [some s, some (.ref 1), t, some x, some y, some z, some (.ref M1.length), a, b, c, none] ⟨_, _, _, _, _, _, _, _, rfl⟩ ((M1 ++ .lst ll :: X).set M1.length .dead)
  have ez : aEnumZ (aCons (eVar 6) aNil) Γ [some s, some (.ref 1), t, some x, some y, some z, some (.ref M1.length), a, b, c, none] (M1 ++ .lst ll :: X) = .ok (pairsFrom 0 ll) ((M1 ++ .lst ll :: X).set M1.length .dead) := by
    have h1 : (M1 ++ MO.lst ll :: X)[M1.length]? = some (.lst ll) := by
      rw [List.getElem?_append_right (Nat.le_refl _), Nat.sub_self]; rfl
    show (match (M1 ++ MO.lst ll :: X)[M1.length]? with
      | some (.lst xs) => R.ok (pairsFrom 0 xs) ((M1 ++ MO.lst ll :: X).set M1.length .dead)
      | _ => .stuck) = _
    rw [h1]
  have t7 : S7 Γ [some s, some (.ref 1), t, some x, some y, some z, some (.ref M1.length), a, b, c, none] (M1 ++ .lst ll :: X) = .next ρ' ((M1 ++ .lst ll :: X).set M1.length .dead) := by
    rw [S7, x_for, ez, toS_ok, kFor_eq, e7]
  refine ⟨ρ', (M1 ++ .lst ll :: X).set M1.length .dead, ?_, hp', ?_⟩
  · unfold turnB
    rw [x_seq, e1, andThen_next, x_seq, t2, andThen_next, x_seq, t3, andThen_next, x_seq, t4, andThen_next, x_seq, t5, andThen_next, x_seq, t6, andThen_next, t7]
  · rw [List.set_append_right _ _ (Nat.le_refl _)]
    exact h1.app _
theorem turns {Γ : Calls} (L : Lb Γ) (s : D) : ∀ (ds : List D) (ρ : MP.Env) (M : Mem), Pv s ρ → StM M → ∃ ρ' M', forL (gN 2) turnB Γ ds ρ M = .next ρ' M'
  | [], ρ, M, _, _ => ⟨ρ, M, rfl⟩
  | d :: ds, ρ, M, hp, hM => by
    obtain ⟨t, x0, y0, z0, r, a, b, c, rfl⟩ := hp
    obtain ⟨ρ1, M1, e1, p1, h1⟩ := turn_ok L s [some s, some (.ref 1), some d, x0, y0, z0, r, a, b, c, none] ⟨_, _, _, _, _, _, _, _, rfl⟩ M hM
    obtain ⟨ρ', M', e2⟩ := turns L s ds ρ1 M1 p1 h1
    refine ⟨ρ', M', ?_⟩
    rw [for_cons, x_gN, asgG_some, andThen_next, kForB_eq]
    have es : ([some s, some (.ref 1), t, x0, y0, z0, r, a, b, c, none] : MP.Env).set 2 (some d) = [some s, some (.ref 1), some d, x0, y0, z0, r, a, b, c, none] := rfl
    rw [es, e1, loop_next, e2]
theorem run_law {Γ : Calls} (L : Lb Γ) (ns : List Int) (h : ns.length ≤ 63) : ∃ M, runBody sem_law 11 Γ [.scr (ns.map D.int)] [] = .ok (.bl true) M := by
  obtain ⟨M1, e1, h1⟩ := L.start ns h
  generalize hs : D.scr (ns.map D.int) = s at e1
  have t1 : sAsg (eCall 0 (aCons (eVar 0) aNil)) (gN 1) Γ (startD 11 [s]) [] = .next [some s, some (.ref 1), none, none, none, none, none, none, none, none, none] M1 := by simp [e1]
  have r4 : ∀ ρ M, aRng1 (aCons (eC (.int 4)) aNil) Γ ρ M = .ok (rints 0 4) M := fun ρ M => aRng1_ok (n := 4) rfl (by decide)
  obtain ⟨ρ', M', e2⟩ := turns L s (rints 0 4) [some s, some (.ref 1), none, none, none, none, none, none, none, none, none] M1 ⟨_, _, _, _, _, _, _, _, rfl⟩ h1
  have t2 : sFor (aRng1 (aCons (eC (.int 4)) aNil)) (gN 2) turnB Γ [some s, some (.ref 1), none, none, none, none, none, none, none, none, none] M1 = .next ρ' M' := by
    rw [x_for, r4, toS_ok, kFor_eq, e2]
  refine ⟨M', ?_⟩
  have g1 : ∀ M, eErrI TI_ValueError (eErr0 "HandedcopiesError") Γ ρ' M = .ok (.bl true) M := fun M => errI_ok (err0_ok _ _ _ _) (by decide +kernel)
  have g2 : ∀ M, eErrI TI_BadLine (eErr0 "HandedcopiesError") Γ ρ' M = .ok (.bl false) M := fun M => errI_ok (err0_ok _ _ _ _) (by decide +kernel)
  rw [body_eq, sem_law', x_seq, t1, andThen_next, x_seq, t2, andThen_next]
  simp [g1, g2]
theorem pure_law : PureLaw := fun ns h => run_law (lb 27) ns h
end K12
set_option pp.deepTerms false
set_option pp.maxSteps 400
open PySem PySem.W PyProof.Rows in
set_option maxRecDepth 100000 in
set_option maxHeartbeats 0 in
theorem PySem.Challenge.cw_handedcopies_k12_errors_made_holds : PySem.Challenge.rw_handedcopies_k12_errors_made.Holds := by
  w_on; o_law; k_head; (case hw => w_witness2)
  k_fill
  refine MP.walkL (l := PySem.Challenge.rw_handedcopies_k12_errors_made) (k := 93) rfl rfl ⟨rfl, by decide, by decide⟩ (fun w h Y => PySem.W.kIn_of Y) ?F
  case F =>
    intro w mg fa h KX G hmg
    refine' K12.law_at K12.pure_law hmg (K12.all_mk KX G ?hc_BadDeed ?hc_BadField ?hc_BadGoal ?hc_BadLabel ?hc_BadLine ?hc_BadMend ?hc_BadMethod ?hc_BadName ?hc_BadPlace ?hc_BadRow ?hc_BadShape ?hc_BadWhen ?hc_BadWorld ?hc_Busy ?hc_HandedcopiesError ?hc_NoClass ?hc_NoDoor ?hc_NotAsked ?hc_Shut ?hc_TooMany ?hc_UnlikeFaces ?hf__law_start ?hi__law_start ?hl__law_start ?hd__law_start ?hk__law_start ?hf__law_draw ?hi__law_draw ?hl__law_draw ?hd__law_draw ?hk__law_draw ?hf__law_of ?hi__law_of ?hl__law_of ?hd__law_of ?hk__law_of ?hf__law_value ?hi__law_value ?hl__law_value ?hd__law_value ?hk__law_value ?hf__law_fields_stand ?hi__law_fields_stand ?hl__law_fields_stand ?hd__law_fields_stand ?hk__law_fields_stand ?hf__law_first ?hi__law_first ?hl__law_first ?hd__law_first ?hk__law_first ?hf__law_second ?hi__law_second ?hl__law_second ?hd__law_second ?hk__law_second ?hf_law ?hi_law ?hl_law ?hd_law ?hk_law ?hb_LookupError ?hb_RuntimeError ?hb_ValueError ?hb_abs ?hb_enumerate ?hb_int ?hb_isinstance ?hb_len ?hb_list ?hb_range ?br_HandedcopiesError ?bs_HandedcopiesError ?bf_HandedcopiesError ?xl_BadShape ?ke_o_BadShape ?ke_f_BadShape ?hf_BadShape___init__ ?ht_BadShape___init__ ?hl_BadShape___init__ ?hd_BadShape___init__ ?hk_BadShape___init__ ?hi_BadShape___init__ ?xl_BadLine ?ke_o_BadLine ?ke_f_BadLine ?hf_BadLine___init__ ?ht_BadLine___init__ ?hl_BadLine___init__ ?hd_BadLine___init__ ?hk_BadLine___init__ ?hi_BadLine___init__ ?xl_NoClass ?ke_o_NoClass ?ke_f_NoClass ?hf_NoClass___init__ ?ht_NoClass___init__ ?hl_NoClass___init__ ?hd_NoClass___init__ ?hk_NoClass___init__ ?hi_NoClass___init__ ?xl_BadField ?ke_o_BadField ?ke_f_BadField ?hf_BadField___init__ ?ht_BadField___init__ ?hl_BadField___init__ ?hd_BadField___init__ ?hk_BadField___init__ ?hi_BadField___init__ ?xl_TooMany ?ke_o_TooMany ?ke_f_TooMany ?hf_TooMany___init__ ?ht_TooMany___init__ ?hl_TooMany___init__ ?hd_TooMany___init__ ?hk_TooMany___init__ ?hi_TooMany___init__ ?xl_BadRow ?ke_o_BadRow ?ke_f_BadRow ?hf_BadRow___init__ ?ht_BadRow___init__ ?hl_BadRow___init__ ?hd_BadRow___init__ ?hk_BadRow___init__ ?hi_BadRow___init__ ?xl_BadMethod ?ke_o_BadMethod ?ke_f_BadMethod ?hf_BadMethod___init__ ?ht_BadMethod___init__ ?hl_BadMethod___init__ ?hd_BadMethod___init__ ?hk_BadMethod___init__ ?hi_BadMethod___init__ ?xl_BadDeed ?ke_o_BadDeed ?ke_f_BadDeed ?hf_BadDeed___init__ ?ht_BadDeed___init__ ?hl_BadDeed___init__ ?hd_BadDeed___init__ ?hk_BadDeed___init__ ?hi_BadDeed___init__ ?xl_BadPlace ?ke_o_BadPlace ?ke_f_BadPlace ?hf_BadPlace___init__ ?ht_BadPlace___init__ ?hl_BadPlace___init__ ?hd_BadPlace___init__ ?hk_BadPlace___init__ ?hi_BadPlace___init__ ?xl_BadWorld ?ke_o_BadWorld ?ke_f_BadWorld ?hf_BadWorld___init__ ?ht_BadWorld___init__ ?hl_BadWorld___init__ ?hd_BadWorld___init__ ?hk_BadWorld___init__ ?hi_BadWorld___init__ ?xl_BadLabel ?ke_o_BadLabel ?ke_f_BadLabel ?hf_BadLabel___init__ ?ht_BadLabel___init__ ?hl_BadLabel___init__ ?hd_BadLabel___init__ ?hk_BadLabel___init__ ?hi_BadLabel___init__ ?xl_BadGoal ?ke_o_BadGoal ?ke_f_BadGoal ?hf_BadGoal___init__ ?ht_BadGoal___init__ ?hl_BadGoal___init__ ?hd_BadGoal___init__ ?hk_BadGoal___init__ ?hi_BadGoal___init__ ?xl_BadWhen ?ke_o_BadWhen ?ke_f_BadWhen ?hf_BadWhen___init__ ?ht_BadWhen___init__ ?hl_BadWhen___init__ ?hd_BadWhen___init__ ?hk_BadWhen___init__ ?hi_BadWhen___init__ ?xl_BadMend ?ke_o_BadMend ?ke_f_BadMend ?hf_BadMend___init__ ?ht_BadMend___init__ ?hl_BadMend___init__ ?hd_BadMend___init__ ?hk_BadMend___init__ ?hi_BadMend___init__ ?xl_NoDoor ?ke_o_NoDoor ?ke_f_NoDoor ?hf_NoDoor___init__ ?ht_NoDoor___init__ ?hl_NoDoor___init__ ?hd_NoDoor___init__ ?hk_NoDoor___init__ ?hi_NoDoor___init__ ?xl_BadName ?ke_o_BadName ?ke_f_BadName ?hf_BadName___init__ ?ht_BadName___init__ ?hl_BadName___init__ ?hd_BadName___init__ ?hk_BadName___init__ ?hi_BadName___init__ ?xl_UnlikeFaces ?ke_o_UnlikeFaces ?ke_f_UnlikeFaces ?hf_UnlikeFaces___init__ ?ht_UnlikeFaces___init__ ?hl_UnlikeFaces___init__ ?hd_UnlikeFaces___init__ ?hk_UnlikeFaces___init__ ?hi_UnlikeFaces___init__ ?xl_Shut ?ke_o_Shut ?ke_f_Shut ?hf_Shut___init__ ?ht_Shut___init__ ?hl_Shut___init__ ?hd_Shut___init__ ?hk_Shut___init__ ?hi_Shut___init__ ?ke_i_BadShape ?ke_i_BadLine ?ke_i_NoClass ?ke_i_BadField ?ke_i_TooMany ?ke_i_BadRow ?ke_i_BadMethod ?ke_i_BadDeed ?ke_i_BadPlace ?ke_i_BadWorld ?ke_i_BadLabel ?ke_i_BadGoal ?ke_i_BadWhen ?ke_i_BadMend ?ke_i_NoDoor ?ke_i_BadName ?ke_i_UnlikeFaces ?ke_i_Busy ?ke_i_NotAsked ?ke_i_Shut ?ke_i_HandedcopiesError ?re0 ?ke_p_Busy ?pk_Busy ?ke_p_HandedcopiesError ?pk_HandedcopiesError ?ke_p_NotAsked ?pk_NotAsked ?ke_k_BadDeed ?ke_k_BadField ?ke_k_BadGoal ?ke_k_BadLabel ?ke_k_BadLine ?ke_k_BadMend ?ke_k_BadMethod ?ke_k_BadName ?ke_k_BadPlace ?ke_k_BadRow ?ke_k_BadShape ?ke_k_BadWhen ?ke_k_BadWorld ?ke_k_Busy ?ke_k_HandedcopiesError ?ke_k_LookupError ?ke_k_NoClass ?ke_k_NoDoor ?ke_k_NotAsked ?ke_k_RuntimeError ?ke_k_Shut ?ke_k_TooMany ?ke_k_UnlikeFaces ?ke_k_ValueError)
    (case hc_BadDeed => k_is)
    (case hc_BadField => k_is)
    (case hc_BadGoal => k_is)
    (case hc_BadLabel => k_is)
    (case hc_BadLine => k_is)
    (case hc_BadMend => k_is)
    (case hc_BadMethod => k_is)
    (case hc_BadName => k_is)
    (case hc_BadPlace => k_is)
    (case hc_BadRow => k_is)
    (case hc_BadShape => k_is)
    (case hc_BadWhen => k_is)
    (case hc_BadWorld => k_is)
    (case hc_Busy => k_is)
    (case hc_HandedcopiesError => k_is)
    (case hc_NoClass => k_is)
    (case hc_NoDoor => k_is)
    (case hc_NotAsked => k_is)
    (case hc_Shut => k_is)
    (case hc_TooMany => k_is)
    (case hc_UnlikeFaces => k_is)
    (case hf__law_start => k_is)
    (case hi__law_start => k_is)
    (case hl__law_start => k_is)
    (case hd__law_start => k_is)
    (case hk__law_start => k_is)
    (case hf__law_draw => k_is)
    (case hi__law_draw => k_is)
    (case hl__law_draw => k_is)
    (case hd__law_draw => k_is)
    (case hk__law_draw => k_is)
    (case hf__law_of => k_is)
    (case hi__law_of => k_is)
    (case hl__law_of => k_is)
    (case hd__law_of => k_is)
    (case hk__law_of => k_is)
    (case hf__law_value => k_is)
    (case hi__law_value => k_is)
    (case hl__law_value => k_is)
    (case hd__law_value => k_is)
    (case hk__law_value => k_is)
    (case hf__law_fields_stand => k_is)
    (case hi__law_fields_stand => k_is)
    (case hl__law_fields_stand => k_is)
    (case hd__law_fields_stand => k_is)
    (case hk__law_fields_stand => k_is)
    (case hf__law_first => k_is)
    (case hi__law_first => k_is)
    (case hl__law_first => k_is)
    (case hd__law_first => k_is)
    (case hk__law_first => k_is)
    (case hf__law_second => k_is)
    (case hi__law_second => k_is)
    (case hl__law_second => k_is)
    (case hd__law_second => k_is)
    (case hk__law_second => k_is)
    (case hf_law => k_is)
    (case hi_law => k_is)
    (case hl_law => k_is)
    (case hd_law => k_is)
    (case hk_law => k_is)
    (case hb_LookupError => k_is)
    (case hb_RuntimeError => k_is)
    (case hb_ValueError => k_is)
    (case hb_abs => k_is)
    (case hb_enumerate => k_is)
    (case hb_int => k_is)
    (case hb_isinstance => k_is)
    (case hb_len => k_is)
    (case hb_list => k_is)
    (case hb_range => k_is)
    (case br_HandedcopiesError => k_is)
    (case bs_HandedcopiesError => k_is)
    (case bf_HandedcopiesError => k_is)
    (case xl_BadShape => k_is)
    (case ke_o_BadShape => kernel_rfl)
    (case ke_f_BadShape => kernel_rfl)
    (case hf_BadShape___init__ => k_is)
    (case ht_BadShape___init__ => k_is)
    (case hl_BadShape___init__ => k_is)
    (case hd_BadShape___init__ => k_is)
    (case hk_BadShape___init__ => k_is)
    (case hi_BadShape___init__ => k_is)
    (case xl_BadLine => k_is)
    (case ke_o_BadLine => kernel_rfl)
    (case ke_f_BadLine => kernel_rfl)
    (case hf_BadLine___init__ => k_is)
    (case ht_BadLine___init__ => k_is)
    (case hl_BadLine___init__ => k_is)
    (case hd_BadLine___init__ => k_is)
    (case hk_BadLine___init__ => k_is)
    (case hi_BadLine___init__ => k_is)
    (case xl_NoClass => k_is)
    (case ke_o_NoClass => kernel_rfl)
    (case ke_f_NoClass => kernel_rfl)
    (case hf_NoClass___init__ => k_is)
    (case ht_NoClass___init__ => k_is)
    (case hl_NoClass___init__ => k_is)
    (case hd_NoClass___init__ => k_is)
    (case hk_NoClass___init__ => k_is)
    (case hi_NoClass___init__ => k_is)
    (case xl_BadField => k_is)
    (case ke_o_BadField => kernel_rfl)
    (case ke_f_BadField => kernel_rfl)
    (case hf_BadField___init__ => k_is)
    (case ht_BadField___init__ => k_is)
    (case hl_BadField___init__ => k_is)
    (case hd_BadField___init__ => k_is)
    (case hk_BadField___init__ => k_is)
    (case hi_BadField___init__ => k_is)
    (case xl_TooMany => k_is)
    (case ke_o_TooMany => kernel_rfl)
    (case ke_f_TooMany => kernel_rfl)
    (case hf_TooMany___init__ => k_is)
    (case ht_TooMany___init__ => k_is)
    (case hl_TooMany___init__ => k_is)
    (case hd_TooMany___init__ => k_is)
    (case hk_TooMany___init__ => k_is)
    (case hi_TooMany___init__ => k_is)
    (case xl_BadRow => k_is)
    (case ke_o_BadRow => kernel_rfl)
    (case ke_f_BadRow => kernel_rfl)
    (case hf_BadRow___init__ => k_is)
    (case ht_BadRow___init__ => k_is)
    (case hl_BadRow___init__ => k_is)
    (case hd_BadRow___init__ => k_is)
    (case hk_BadRow___init__ => k_is)
    (case hi_BadRow___init__ => k_is)
    (case xl_BadMethod => k_is)
    (case ke_o_BadMethod => kernel_rfl)
    (case ke_f_BadMethod => kernel_rfl)
    (case hf_BadMethod___init__ => k_is)
    (case ht_BadMethod___init__ => k_is)
    (case hl_BadMethod___init__ => k_is)
    (case hd_BadMethod___init__ => k_is)
    (case hk_BadMethod___init__ => k_is)
    (case hi_BadMethod___init__ => k_is)
    (case xl_BadDeed => k_is)
    (case ke_o_BadDeed => kernel_rfl)
    (case ke_f_BadDeed => kernel_rfl)
    (case hf_BadDeed___init__ => k_is)
    (case ht_BadDeed___init__ => k_is)
    (case hl_BadDeed___init__ => k_is)
    (case hd_BadDeed___init__ => k_is)
    (case hk_BadDeed___init__ => k_is)
    (case hi_BadDeed___init__ => k_is)
    (case xl_BadPlace => k_is)
    (case ke_o_BadPlace => kernel_rfl)
    (case ke_f_BadPlace => kernel_rfl)
    (case hf_BadPlace___init__ => k_is)
    (case ht_BadPlace___init__ => k_is)
    (case hl_BadPlace___init__ => k_is)
    (case hd_BadPlace___init__ => k_is)
    (case hk_BadPlace___init__ => k_is)
    (case hi_BadPlace___init__ => k_is)
    (case xl_BadWorld => k_is)
    (case ke_o_BadWorld => kernel_rfl)
    (case ke_f_BadWorld => kernel_rfl)
    (case hf_BadWorld___init__ => k_is)
    (case ht_BadWorld___init__ => k_is)
    (case hl_BadWorld___init__ => k_is)
    (case hd_BadWorld___init__ => k_is)
    (case hk_BadWorld___init__ => k_is)
    (case hi_BadWorld___init__ => k_is)
    (case xl_BadLabel => k_is)
    (case ke_o_BadLabel => kernel_rfl)
    (case ke_f_BadLabel => kernel_rfl)
    (case hf_BadLabel___init__ => k_is)
    (case ht_BadLabel___init__ => k_is)
    (case hl_BadLabel___init__ => k_is)
    (case hd_BadLabel___init__ => k_is)
    (case hk_BadLabel___init__ => k_is)
    (case hi_BadLabel___init__ => k_is)
    (case xl_BadGoal => k_is)
    (case ke_o_BadGoal => kernel_rfl)
    (case ke_f_BadGoal => kernel_rfl)
    (case hf_BadGoal___init__ => k_is)
    (case ht_BadGoal___init__ => k_is)
    (case hl_BadGoal___init__ => k_is)
    (case hd_BadGoal___init__ => k_is)
    (case hk_BadGoal___init__ => k_is)
    (case hi_BadGoal___init__ => k_is)
    (case xl_BadWhen => k_is)
    (case ke_o_BadWhen => kernel_rfl)
    (case ke_f_BadWhen => kernel_rfl)
    (case hf_BadWhen___init__ => k_is)
    (case ht_BadWhen___init__ => k_is)
    (case hl_BadWhen___init__ => k_is)
    (case hd_BadWhen___init__ => k_is)
    (case hk_BadWhen___init__ => k_is)
    (case hi_BadWhen___init__ => k_is)
    (case xl_BadMend => k_is)
    (case ke_o_BadMend => kernel_rfl)
    (case ke_f_BadMend => kernel_rfl)
    (case hf_BadMend___init__ => k_is)
    (case ht_BadMend___init__ => k_is)
    (case hl_BadMend___init__ => k_is)
    (case hd_BadMend___init__ => k_is)
    (case hk_BadMend___init__ => k_is)
    (case hi_BadMend___init__ => k_is)
    (case xl_NoDoor => k_is)
    (case ke_o_NoDoor => kernel_rfl)
    (case ke_f_NoDoor => kernel_rfl)
    (case hf_NoDoor___init__ => k_is)
    (case ht_NoDoor___init__ => k_is)
    (case hl_NoDoor___init__ => k_is)
    (case hd_NoDoor___init__ => k_is)
    (case hk_NoDoor___init__ => k_is)
    (case hi_NoDoor___init__ => k_is)
    (case xl_BadName => k_is)
    (case ke_o_BadName => kernel_rfl)
    (case ke_f_BadName => kernel_rfl)
    (case hf_BadName___init__ => k_is)
    (case ht_BadName___init__ => k_is)
    (case hl_BadName___init__ => k_is)
    (case hd_BadName___init__ => k_is)
    (case hk_BadName___init__ => k_is)
    (case hi_BadName___init__ => k_is)
    (case xl_UnlikeFaces => k_is)
    (case ke_o_UnlikeFaces => kernel_rfl)
    (case ke_f_UnlikeFaces => kernel_rfl)
    (case hf_UnlikeFaces___init__ => k_is)
    (case ht_UnlikeFaces___init__ => k_is)
    (case hl_UnlikeFaces___init__ => k_is)
    (case hd_UnlikeFaces___init__ => k_is)
    (case hk_UnlikeFaces___init__ => k_is)
    (case hi_UnlikeFaces___init__ => k_is)
    (case xl_Shut => k_is)
    (case ke_o_Shut => kernel_rfl)
    (case ke_f_Shut => kernel_rfl)
    (case hf_Shut___init__ => k_is)
    (case ht_Shut___init__ => k_is)
    (case hl_Shut___init__ => k_is)
    (case hd_Shut___init__ => k_is)
    (case hk_Shut___init__ => k_is)
    (case hi_Shut___init__ => k_is)
    (case ke_i_BadShape => kernel_rfl)
    (case ke_i_BadLine => kernel_rfl)
    (case ke_i_NoClass => kernel_rfl)
    (case ke_i_BadField => kernel_rfl)
    (case ke_i_TooMany => kernel_rfl)
    (case ke_i_BadRow => kernel_rfl)
    (case ke_i_BadMethod => kernel_rfl)
    (case ke_i_BadDeed => kernel_rfl)
    (case ke_i_BadPlace => kernel_rfl)
    (case ke_i_BadWorld => kernel_rfl)
    (case ke_i_BadLabel => kernel_rfl)
    (case ke_i_BadGoal => kernel_rfl)
    (case ke_i_BadWhen => kernel_rfl)
    (case ke_i_BadMend => kernel_rfl)
    (case ke_i_NoDoor => kernel_rfl)
    (case ke_i_BadName => kernel_rfl)
    (case ke_i_UnlikeFaces => kernel_rfl)
    (case ke_i_Busy => kernel_rfl)
    (case ke_i_NotAsked => kernel_rfl)
    (case ke_i_Shut => kernel_rfl)
    (case ke_i_HandedcopiesError => kernel_rfl)
    (case re0 => k_is)
    (case ke_p_Busy => kernel_rfl)
    (case pk_Busy => k_is)
    (case ke_p_HandedcopiesError => kernel_rfl)
    (case pk_HandedcopiesError => k_is)
    (case ke_p_NotAsked => kernel_rfl)
    (case pk_NotAsked => k_is)
    (case ke_k_BadDeed => kernel_rfl)
    (case ke_k_BadField => kernel_rfl)
    (case ke_k_BadGoal => kernel_rfl)
    (case ke_k_BadLabel => kernel_rfl)
    (case ke_k_BadLine => kernel_rfl)
    (case ke_k_BadMend => kernel_rfl)
    (case ke_k_BadMethod => kernel_rfl)
    (case ke_k_BadName => kernel_rfl)
    (case ke_k_BadPlace => kernel_rfl)
    (case ke_k_BadRow => kernel_rfl)
    (case ke_k_BadShape => kernel_rfl)
    (case ke_k_BadWhen => kernel_rfl)
    (case ke_k_BadWorld => kernel_rfl)
    (case ke_k_Busy => kernel_rfl)
    (case ke_k_HandedcopiesError => kernel_rfl)
    (case ke_k_LookupError => kernel_rfl)
    (case ke_k_NoClass => kernel_rfl)
    (case ke_k_NoDoor => kernel_rfl)
    (case ke_k_NotAsked => kernel_rfl)
    (case ke_k_RuntimeError => kernel_rfl)
    (case ke_k_Shut => kernel_rfl)
    (case ke_k_TooMany => kernel_rfl)
    (case ke_k_UnlikeFaces => kernel_rfl)
    (case ke_k_ValueError => kernel_rfl)
