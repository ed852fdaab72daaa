import PyProof.Rows.All
import Wide.All
import OpenK.AllK
import Wide.FinOn
import HandS.ForMost
import HandS.ForExc
import HandS.IsInst
import HandS.Flow
import HandS.Wide
import HandS.TupAny
import HandS.Conv
import HandS.RaiseMore
import HandS.Small
import HandS.TupMul
import HandS.Style
import HandS.CallSlots
import HandS.Iter
import HandS.Zip
import HandS.TupLen
import HandS.DictTup
import HandS.SetKeys
import KE.KDictKeyed
import HandS.EndBits
import PySem.Challenge.RW_treelore_k68_whole_few_new_ties
import KE.KIntText
set_option Elab.async false
set_option linter.all false
set_option maxRecDepth 100000
namespace L3
open PySem PySem.Spec PyProof.Rows L2

/-! ### data, the store, results -/
inductive D where
  | non | bl (b : Bool) | int (i : Int) | str (x : Str) | tup (xs : List D) | ref (i : Nat) | scr (ns : List Int)
inductive O where
  | lst (xs : List D)
  | dk (kvs : List (Key × D))
  | dt (kvs : List (List Key × D))
abbrev Store := List O
inductive Res (α : Type) where
  | ok (a : α) (S : Store)
  | exc (c : Str) (fs : List (Str × D)) (S : Store)
  | no
abbrev En := List (Option D)
inductive SR where
  | nx (E : En) (S : Store)
  | ret (d : D) (S : Store)
  | bk (E : En) (S : Store)
  | ct (E : En) (S : Store)
  | exc (c : Str) (fs : List (Str × D)) (E : En) (S : Store)
  | no
abbrev ME := En → Store → Res D
abbrev MT := En → Store → Res Bool
abbrev MA := En → Store → Res (List D)
abbrev MS := En → Store → SR

/-- the script: a list that nobody changes -/
def ScrAt (K : PySem.W.Frag) (H : Hp) (a : Addr) (ns : List Int) : Prop := (∃ o, H a = some (.frz o (.lst (ns.map V.int)))) ∨ ∀ H', SqL K H' a (ns.map V.int)
theorem ScrAt.sq {K : PySem.W.Frag} {H : Hp} {a : Addr} {ns : List Int} (h : ScrAt K H a ns) : SqL K H a (ns.map V.int) := by
  rcases h with ⟨o, h⟩ | h
  · exact .inl (.inr ⟨o, h⟩)
  · exact h H
mutual
inductive Rep (K : PySem.W.Frag) (H : Hp) (α : List Addr) : D → V → Prop
  | non : Rep K H α .non .non
  | bl (b : Bool) : Rep K H α (.bl b) (.bl b)
  | int (i : Int) : Rep K H α (.int i) (.int i)
  | str (x : Str) : Rep K H α (.str x) (.str x)
  | tup {a : Addr} {vs : List V} {ds : List D} : H a = some (.tup vs) → Reps K H α ds vs → Rep K H α (.tup ds) (.ref a)
  | ref {i : Nat} {a : Addr} : α[i]? = some a → Rep K H α (.ref i) (.ref a)
  | scr {a : Addr} {ns : List Int} : ScrAt K H a ns → Rep K H α (.scr ns) (.ref a)
inductive Reps (K : PySem.W.Frag) (H : Hp) (α : List Addr) : List D → List V → Prop
  | nil : Reps K H α [] []
  | cons {d : D} {v : V} {ds : List D} {vs : List V} : Rep K H α d v → Reps K H α ds vs → Reps K H α (d :: ds) (v :: vs)
end

/-- tuples stay -/
structure Grow (_K : PySem.W.Frag) (H H' : Hp) : Prop where
  tup : ∀ a xs, H a = some (.tup xs) → H' a = some (.tup xs)
  frz : ∀ a o xs, H a = some (.frz o (.lst xs)) → H' a = some (.frz o (.lst xs))
theorem Grow.scr {K : PySem.W.Frag} {H H' : Hp} {a : Addr} {ns : List Int} (g : Grow K H H') (h : ScrAt K H a ns) : ScrAt K H' a ns := by
  rcases h with ⟨o, h⟩ | h
  · exact .inl ⟨o, g.frz _ _ _ h⟩
  · exact .inr h
def Pre (α α' : List Addr) : Prop := ∀ (i : Nat) (a : Addr), α[i]? = some a → α'[i]? = some a
theorem Grow.refl {K : PySem.W.Frag} {H : Hp} : Grow K H H := ⟨fun _ _ h => h, fun _ _ _ h => h⟩
theorem Grow.trans {K : PySem.W.Frag} {H H1 H2 : Hp} (a : Grow K H H1) (b : Grow K H1 H2) : Grow K H H2 := ⟨fun x y h => b.tup x y (a.tup x y h), fun x o y h => b.frz x o y (a.frz x o y h)⟩
theorem Pre.refl {α : List Addr} : Pre α α := fun _ _ h => h
theorem Pre.trans {α β γ : List Addr} (a : Pre α β) (b : Pre β γ) : Pre α γ := fun i x h => b i x (a i x h)
theorem Pre.app {α : List Addr} {p : Addr} : Pre α (α ++ [p]) := fun i a h => by
  rw [List.getElem?_append_left]
  · exact h
  · exact (List.getElem?_eq_some_iff.mp h).1

section
variable {K : PySem.W.Frag} {H H' : Hp} {α α' : List Addr}
mutual
theorem Rep.mono (g : Grow K H H') (p : Pre α α') : ∀ {d : D} {v : V}, Rep K H α d v → Rep K H' α' d v
  | _, _, .non => .non
  | _, _, .bl b => .bl b
  | _, _, .int i => .int i
  | _, _, .str x => .str x
  | _, _, .tup t r => .tup (g.tup _ _ t) (Reps.mono g p r)
  | _, _, .ref h => .ref (p _ _ h)
  | _, _, .scr h => .scr (g.scr h)
theorem Reps.mono (g : Grow K H H') (p : Pre α α') : ∀ {ds : List D} {vs : List V}, Reps K H α ds vs → Reps K H' α' ds vs
  | _, _, .nil => .nil
  | _, _, .cons r rs => .cons (Rep.mono g p r) (Reps.mono g p rs)
end
theorem Reps.length : ∀ {ds : List D} {vs : List V}, Reps K H α ds vs → ds.length = vs.length
  | _, _, .nil => rfl
  | _, _, .cons _ r => congrArg (· + 1) (Reps.length r)
theorem Reps.get : ∀ {ds : List D} {vs : List V} {i : Nat} {d : D}, Reps K H α ds vs → ds[i]? = some d → ∃ v, vs[i]? = some v ∧ Rep K H α d v
  | _, _, _, _, .nil, h => by simp at h
  | _, _, 0, _, .cons r _, h => by simp at h; subst h; exact ⟨_, rfl, r⟩
  | _, _, i + 1, _, .cons _ rs, h => by
    obtain ⟨v, h1, h2⟩ := Reps.get (i := i) rs (by simpa using h)
    exact ⟨v, by simpa using h1, h2⟩
theorem Reps.get' : ∀ {ds : List D} {vs : List V} {i : Nat} {v : V}, Reps K H α ds vs → vs[i]? = some v → ∃ d, ds[i]? = some d ∧ Rep K H α d v
  | _, _, _, _, .nil, h => by simp at h
  | _, _, 0, _, .cons r _, h => by simp at h; subst h; exact ⟨_, rfl, r⟩
  | _, _, i + 1, _, .cons _ rs, h => by
    obtain ⟨v, h1, h2⟩ := Reps.get' (i := i) rs (by simpa using h)
    exact ⟨v, by simpa using h1, h2⟩
theorem Reps.append : ∀ {ds es : List D} {vs us : List V}, Reps K H α ds vs → Reps K H α es us → Reps K H α (ds ++ es) (vs ++ us)
  | _, _, _, _, .nil, s => s
  | _, _, _, _, .cons r rs, s => .cons r (Reps.append rs s)
theorem Reps.take : ∀ {ds : List D} {vs : List V} (n : Nat), Reps K H α ds vs → Reps K H α (ds.take n) (vs.take n)
  | _, _, 0, _ => .nil
  | _, _, _ + 1, .nil => .nil
  | _, _, n + 1, .cons r rs => .cons r (Reps.take n rs)
theorem Reps.drop : ∀ {ds : List D} {vs : List V} (n : Nat), Reps K H α ds vs → Reps K H α (ds.drop n) (vs.drop n)
  | _, _, 0, r => r
  | _, _, _ + 1, .nil => .nil
  | _, _, n + 1, .cons _ rs => Reps.drop n rs
theorem Reps.set {d : D} {v : V} (r : Rep K H α d v) : ∀ {ds : List D} {vs : List V} (n : Nat), Reps K H α ds vs → Reps K H α (ds.set n d) (vs.set n v)
  | _, _, _, .nil => .nil
  | _, _, 0, .cons _ rs => .cons r rs
  | _, _, n + 1, .cons q rs => .cons q (Reps.set r n rs)
theorem Reps.ints : ∀ {ns : List Int} {vs : List V}, Reps K H α (ns.map D.int) vs → vs = ns.map V.int
  | [], _, .nil => rfl
  | n :: ns, _, .cons r rs => by
    cases r
    rw [Reps.ints (ns := ns) rs]; rfl
theorem Reps.of_ints : ∀ (ns : List Int), Reps K H α (ns.map D.int) (ns.map V.int)
  | [] => .nil
  | n :: ns => .cons (.int n) (Reps.of_ints ns)

/-! ### the store and the abstract heap -/
def KRep (K : PySem.W.Frag) (H : Hp) (α : List Addr) {κ : Type} : List (κ × D) → List (κ × V) → Prop := Paired fun (p : κ × D) (q : κ × V) => p.1 = q.1 ∧ Rep K H α p.2 q.2
theorem KRep.mono {κ : Type} (g : Grow K H H') (p : Pre α α') {l : List (κ × D)} {l' : List (κ × V)} (h : KRep K H α l l') : KRep K H' α' l l' := Paired.mapP h fun _ _ x => ⟨x.1, x.2.mono g p⟩
def RepO (K : PySem.W.Frag) (H : Hp) (α : List Addr) : O → Addr → Prop
  | .lst xs, a => ∃ vs, H a = some (.lst vs) ∧ Reps K H α xs vs
  | .dk kvs, a => ∃ ks, H a = some (.dK ks) ∧ KRep K H α kvs ks
  | .dt kvs, a => ∃ ks, H a = some (.dT ks) ∧ KRep K H α kvs ks
structure Sim (K : PySem.W.Frag) (H : Hp) (α : List Addr) (S : Store) : Prop where
  nd : ∀ (i j : Nat) (a : Addr), α[i]? = some a → α[j]? = some a → i = j
  len : α.length = S.length
  obj : ∀ (i : Nat) (o : O) (a : Addr), S[i]? = some o → α[i]? = some a → RepO K H α o a
structure RelE (K : PySem.W.Frag) (H : Hp) (α : List Addr) (E : En) (σ : L2.St) : Prop where
  len : E.length = σ.length
  at_ : ∀ (i : Nat) (d : D), E[i]? = some (some d) → ∃ v, σ[i]? = some (some v) ∧ Rep K H α d v
theorem RelE.mono {E : En} {σ : L2.St} (g : Grow K H H') (p : Pre α α') (h : RelE K H α E σ) : RelE K H' α' E σ :=
  ⟨h.len, fun i d e => let ⟨v, a, b⟩ := h.at_ i d e; ⟨v, a, b.mono g p⟩⟩
theorem RelE.set {E : En} {σ : L2.St} {i : Nat} {d : D} {v : V} (h : RelE K H α E σ) (r : Rep K H α d v) : RelE K H α (E.set i (some d)) (σ.set i (some v)) := by
  refine ⟨by simp [h.len], fun j e hj => ?_⟩
  by_cases hij : i = j
  · subst hij
    have hlt : i < E.length := by
      have := (List.getElem?_eq_some_iff.mp hj).1
      simpa using this
    rw [List.getElem?_set_self hlt] at hj
    cases hj
    exact ⟨v, by rw [List.getElem?_set_self (by rw [← h.len]; exact hlt)], r⟩
  · rw [List.getElem?_set_ne hij] at hj
    obtain ⟨w, a, b⟩ := h.at_ j e hj
    exact ⟨w, by rw [List.getElem?_set_ne hij]; exact a, b⟩
theorem Sim.addr {S : Store} {i : Nat} {o : O} (h : Sim K H α S) (e : S[i]? = some o) : ∃ a, α[i]? = some a ∧ RepO K H α o a := by
  have hlt := (List.getElem?_eq_some_iff.mp e).1
  rw [← h.len] at hlt
  exact ⟨α[i], by simp [hlt], h.obj i o α[i] e (by simp [hlt])⟩
theorem Sim.tracked {S : Store} {i : Nat} {a : Addr} (h : Sim K H α S) (e : α[i]? = some a) : H a ≠ none := by
  have hlt := (List.getElem?_eq_some_iff.mp e).1
  rw [h.len] at hlt
  have q := h.obj i S[i] a (by simp [hlt]) e
  cases hS : S[i] with
  | lst xs => rw [hS] at q; obtain ⟨vs, q, _⟩ := q; rw [q]; exact fun z => nomatch z
  | dk xs => rw [hS] at q; obtain ⟨vs, q, _⟩ := q; rw [q]; exact fun z => nomatch z
  | dt xs => rw [hS] at q; obtain ⟨vs, q, _⟩ := q; rw [q]; exact fun z => nomatch z

/-- a new address tracked -/
theorem grow_new {p : Addr} {o : HO} (hp : H p = none) : Grow K H (upd H p o) :=
  ⟨fun a xs h => by rw [upd_ne (ne_of_none h hp)]; exact h, fun a ob xs h => by rw [upd_ne (ne_of_none h hp)]; exact h⟩
/-- a changed object that is no tuple -/
theorem grow_upd {p : Addr} {o u : HO} (hp : H p = some u) (nt : Mut (some u)) : Grow K H (upd H p o) := by
  refine ⟨fun a xs h => ?_, fun a ob xs h => ?_⟩
  · rw [upd_ne]; exact h
    rintro rfl; rw [hp] at h; cases h; exact nt
  · rw [upd_ne]; exact h
    rintro rfl; rw [hp] at h; cases h; exact nt
theorem RepO.mono {o : O} {a : Addr} (g : Grow K H H') (p : Pre α α') (e : H' a = H a) (h : RepO K H α o a) : RepO K H' α' o a := by
  cases o with
  | lst xs => obtain ⟨vs, q, r⟩ := h; exact ⟨vs, e.trans q, r.mono g p⟩
  | dk xs => obtain ⟨vs, q, r⟩ := h; exact ⟨vs, e.trans q, KRep.mono g p r⟩
  | dt xs => obtain ⟨vs, q, r⟩ := h; exact ⟨vs, e.trans q, KRep.mono g p r⟩
/-- a new untold object (a tuple) -/
theorem Sim.fresh {S : Store} {p : Addr} {o : HO} (h : Sim K H α S) (hp : H p = none) : Sim K (upd H p o) α S :=
  ⟨h.nd, h.len, fun i x a e1 e2 => (h.obj i x a e1 e2).mono (grow_new hp) Pre.refl (upd_ne fun z => h.tracked e2 (z ▸ hp))⟩
/-- a new object of the store -/
theorem Sim.push {S : Store} {p : Addr} {o : O} (h : Sim K H α S) (hp : H p = none) (ho : HO) (r : RepO K (upd H p ho) (α ++ [p]) o p) : Sim K (upd H p ho) (α ++ [p]) (S ++ [o]) := by
  have hnp : ∀ i : Nat, α[i]? ≠ some p := fun i e => h.tracked e hp
  refine ⟨fun i j a e1 e2 => ?_, by simp [h.len], fun i x a e1 e2 => ?_⟩
  · rw [List.getElem?_append] at e1 e2
    split at e1 <;> split at e2
    · exact h.nd i j a e1 e2
    · rename_i h1 h2
      have : a = p := by
        have : j - α.length < 1 := by
          have := (List.getElem?_eq_some_iff.mp e2).1; simpa using this
        have e : j - α.length = 0 := by omega
        rw [e] at e2; simpa using e2.symm
      subst this; exact absurd e1 (hnp i)
    · rename_i h1 h2
      have : a = p := by
        have : i - α.length < 1 := by
          have := (List.getElem?_eq_some_iff.mp e1).1; simpa using this
        have e : i - α.length = 0 := by omega
        rw [e] at e1; simpa using e1.symm
      subst this; exact absurd e2 (hnp j)
    · have := (List.getElem?_eq_some_iff.mp e1).1
      have := (List.getElem?_eq_some_iff.mp e2).1
      simp at *
      omega
  · by_cases hi : i < S.length
    · rw [List.getElem?_append_left hi] at e1
      rw [List.getElem?_append_left (by rw [h.len]; exact hi)] at e2
      exact (h.obj i x a e1 e2).mono (grow_new hp) Pre.app (upd_ne fun z => h.tracked e2 (z ▸ hp))
    · have hl : i < (S ++ [o]).length := (List.getElem?_eq_some_iff.mp e1).1
      have : i = S.length := by simp at hl; omega
      subst this
      rw [List.getElem?_append_right (Nat.le_refl _)] at e1
      simp at e1
      rw [← h.len, List.getElem?_append_right (Nat.le_refl _)] at e2
      simp at e2
      subst e1; subst e2
      exact r
/-- an object of the store changed -/
theorem Sim.write {S : Store} {i : Nat} {p : Addr} {o : O} (h : Sim K H α S) (e : α[i]? = some p) (ho : HO) (g : Grow K H (upd H p ho)) (r : RepO K (upd H p ho) α o p) : Sim K (upd H p ho) α (S.set i o) := by
  refine ⟨h.nd, by simp [h.len], fun j x a e1 e2 => ?_⟩
  by_cases hij : i = j
  · subst hij
    rw [e] at e2; cases e2
    have hlt : i < S.length := by
      have := (List.getElem?_eq_some_iff.mp e1).1; simpa using this
    rw [List.getElem?_set_self hlt] at e1
    cases e1
    exact r
  · rw [List.getElem?_set_ne hij] at e1
    refine (h.obj j x a e1 e2).mono g Pre.refl (upd_ne ?_)
    rintro rfl
    exact hij (h.nd i j a e e2)
end

/-- from one state to a later one: what the store names may change, all else stays -/
structure Stp (α : List Addr) (H : Hp) (α' : List Addr) (H' : Hp) : Prop where
  pre : Pre α α'
  new : ∀ a ∈ α', a ∈ α ∨ H a = none
  keep : ∀ a o, H a = some o → a ∉ α → H' a = some o
theorem Stp.refl {α : List Addr} {H : Hp} : Stp α H α H := ⟨Pre.refl, fun _ h => .inl h, fun _ _ h _ => h⟩
theorem Stp.trans {α β γ : List Addr} {H H1 H2 : Hp} (a : Stp α H β H1) (b : Stp β H1 γ H2) : Stp α H γ H2 := by
  refine ⟨a.pre.trans b.pre, fun x hx => ?_, fun x o hx hn => ?_⟩
  · rcases b.new x hx with h | h
    · exact a.new x h
    · by_cases hα : x ∈ α
      · exact .inl hα
      · cases e : H x with
        | none => exact .inr rfl
        | some o => rw [a.keep x o e hα] at h; cases h
  · refine b.keep x o (a.keep x o hx hn) fun hb => ?_
    rcases a.new x hb with h | h
    · exact hn h
    · rw [hx] at h; cases h
theorem Stp.fresh {α : List Addr} {H : Hp} {p : Addr} {o : HO} (hp : H p = none) : Stp α H α (upd H p o) :=
  ⟨Pre.refl, fun _ h => .inl h, fun a u h _ => by rw [upd_ne (ne_of_none h hp)]; exact h⟩
theorem Stp.push {α : List Addr} {H : Hp} {p : Addr} {o : HO} (hp : H p = none) : Stp α H (α ++ [p]) (upd H p o) := by
  refine ⟨Pre.app, fun a h => ?_, fun a u h _ => by rw [upd_ne (ne_of_none h hp)]; exact h⟩
  rcases List.mem_append.mp h with h | h
  · exact .inl h
  · have e : a = p := by simpa using h
    exact .inr (e ▸ hp)
theorem Stp.write {α : List Addr} {H : Hp} {p : Addr} {o : HO} {i : Nat} (e : α[i]? = some p) : Stp α H α (upd H p o) :=
  ⟨Pre.refl, fun _ h => .inl h, fun a u h hn => by
    have ne : a ≠ p := fun z => hn (by rw [z]; exact List.mem_of_getElem? e)
    rw [upd_ne ne]; exact h⟩
/-- what stands in the store may be changed -/
theorem Sim.mut {K : PySem.W.Frag} {H : Hp} {α : List Addr} {S : Store} {a : Addr} (s : Sim K H α S) (hm : a ∈ α) : Mut (H a) := by
  obtain ⟨i, hi⟩ := List.mem_iff_getElem?.mp hm
  have hlt := (List.getElem?_eq_some_iff.mp hi).1
  rw [s.len] at hlt
  have q := s.obj i S[i] a (by simp [hlt]) hi
  cases hS : S[i] with
  | lst xs => rw [hS] at q; obtain ⟨vs, q, _⟩ := q; rw [q]; trivial
  | dk xs => rw [hS] at q; obtain ⟨vs, q, _⟩ := q; rw [q]; trivial
  | dt xs => rw [hS] at q; obtain ⟨vs, q, _⟩ := q; rw [q]; trivial
theorem Stp.grow {K : PySem.W.Frag} {α α' : List Addr} {H H' : Hp} {S : Store} (p : Stp α H α' H') (s : Sim K H α S) : Grow K H H' :=
  ⟨fun a xs h => p.keep a _ h fun z => by have := s.mut z; rw [h] at this; exact this, fun a o xs h => p.keep a _ h fun z => by have := s.mut z; rw [h] at this; exact this⟩

/-! ### what is wanted behind a result -/
/-- an exception's class and dict for a told one -/
def ExcV (mg : Str → Option Value) (K : PySem.W.Frag) (H : Hp) (α : List Addr) (c : Str) (fs : List (Str × D)) (cls : Value) (d : Option Addr) : Prop :=
  ∃ C, mg c = some (.ref C) ∧ cls = .ref C ∧ ((fs = [] ∧ d = none) ∨ ∃ dx ks, d = some dx ∧ H dx = some (.xd ks) ∧ KRep K H α fs ks)
section
variable (K : PySem.W.Frag) (mg : Str → Option Value) (H : Hp) (α : List Addr)
def PV (W : Value → Option Addr → Hp → Prop) (Q : VK) : Res D → Prop
  | .ok x S => ∀ α' H' v, Stp α H α' H' → Sim K H' α' S → Rep K H' α' x v → Q v H'
  | .exc c fs S => ∀ α' H' cls d, Stp α H α' H' → Sim K H' α' S → ExcV mg K H' α' c fs cls d → W cls d H'
  | .no => False
def PB (W : Value → Option Addr → Hp → Prop) (Q : Bool → Hp → Prop) : Res Bool → Prop
  | .ok x S => ∀ α' H', Stp α H α' H' → Sim K H' α' S → Q x H'
  | .exc c fs S => ∀ α' H' cls d, Stp α H α' H' → Sim K H' α' S → ExcV mg K H' α' c fs cls d → W cls d H'
  | .no => False
def PL (W : Value → Option Addr → Hp → Prop) (Q : List V → Hp → Prop) : Res (List D) → Prop
  | .ok x S => ∀ α' H' v, Stp α H α' H' → Sim K H' α' S → Reps K H' α' x v → Q v H'
  | .exc c fs S => ∀ α' H' cls d, Stp α H α' H' → Sim K H' α' S → ExcV mg K H' α' c fs cls d → W cls d H'
  | .no => False
def PR (W : WX) (D : Ends) : SR → Prop
  | .nx E S => ∀ α' H' σ', Stp α H α' H' → Sim K H' α' S → RelE K H' α' E σ' → D.nx σ' H'
  | .ret x S => ∀ α' H' v, Stp α H α' H' → Sim K H' α' S → Rep K H' α' x v → D.rt v H'
  | .bk E S => ∀ α' H' σ', Stp α H α' H' → Sim K H' α' S → RelE K H' α' E σ' → D.bk σ' H'
  | .ct E S => ∀ α' H' σ', Stp α H α' H' → Sim K H' α' S → RelE K H' α' E σ' → D.ct σ' H'
  | .exc c fs E S => ∀ α' H' σ' cls d, Stp α H α' H' → Sim K H' α' S → RelE K H' α' E σ' → ExcV mg K H' α' c fs cls d → W cls d σ' H'
  | .no => False
end
section
variable {K : PySem.W.Frag} {mg : Str → Option Value} {H H1 : Hp} {α α1 : List Addr}
theorem PV.mono {W W' : Value → Option Addr → Hp → Prop} {Q Q' : VK} {r : Res D} (h : PV K mg H α W Q r) (p : Stp α H α1 H1) (hQ : ∀ v H', Q v H' → Q' v H') (hW : ∀ c d H', W c d H' → W' c d H') : PV K mg H1 α1 W' Q' r := by
  cases r with
  | ok x S => exact fun α' H' v p' s r => hQ v H' (h α' H' v (p.trans p') s r)
  | exc c fs S => exact fun α' H' cls d p' s e => hW _ _ _ (h α' H' cls d (p.trans p') s e)
  | no => exact h
theorem PB.mono {W W' : Value → Option Addr → Hp → Prop} {Q Q' : Bool → Hp → Prop} {r : Res Bool} (h : PB K mg H α W Q r) (p : Stp α H α1 H1) (hQ : ∀ v H', Q v H' → Q' v H') (hW : ∀ c d H', W c d H' → W' c d H') : PB K mg H1 α1 W' Q' r := by
  cases r with
  | ok x S => exact fun α' H' p' s => hQ x H' (h α' H' (p.trans p') s)
  | exc c fs S => exact fun α' H' cls d p' s e => hW _ _ _ (h α' H' cls d (p.trans p') s e)
  | no => exact h
theorem PL.mono {W W' : Value → Option Addr → Hp → Prop} {Q Q' : List V → Hp → Prop} {r : Res (List D)} (h : PL K mg H α W Q r) (p : Stp α H α1 H1) (hQ : ∀ v H', Q v H' → Q' v H') (hW : ∀ c d H', W c d H' → W' c d H') : PL K mg H1 α1 W' Q' r := by
  cases r with
  | ok x S => exact fun α' H' v p' s r => hQ v H' (h α' H' v (p.trans p') s r)
  | exc c fs S => exact fun α' H' cls d p' s e => hW _ _ _ (h α' H' cls d (p.trans p') s e)
  | no => exact h
theorem PR.mono {W W' : WX} {D D' : Ends} {r : SR} (h : PR K mg H α W D r) (p : Stp α H α1 H1) (h1 : ∀ σ H', D.nx σ H' → D'.nx σ H') (h2 : ∀ v H', D.rt v H' → D'.rt v H') (h3 : ∀ σ H', D.bk σ H' → D'.bk σ H') (h4 : ∀ σ H', D.ct σ H' → D'.ct σ H') (hW : ∀ c d σ H', W c d σ H' → W' c d σ H') : PR K mg H1 α1 W' D' r := by
  cases r with
  | nx E S => exact fun α' H' v p' s r => h1 v H' (h α' H' v (p.trans p') s r)
  | ret E S => exact fun α' H' v p' s r => h2 v H' (h α' H' v (p.trans p') s r)
  | bk E S => exact fun α' H' v p' s r => h3 v H' (h α' H' v (p.trans p') s r)
  | ct E S => exact fun α' H' v p' s r => h4 v H' (h α' H' v (p.trans p') s r)
  | exc c fs E S => exact fun α' H' σ cls d p' s re e => hW _ _ _ _ (h α' H' σ cls d (p.trans p') s re e)
  | no => exact h
end

/-! ### readings of the machine -/
def iE (K : PySem.W.Frag) (mg : Str → Option Value) (W : WX) (m : ME) : TE := fun σ H Q => ∃ α E S, Sim K H α S ∧ RelE K H α E σ ∧ PV K mg H α (fun c d H' => W c d σ H') Q (m E S)
def iT (K : PySem.W.Frag) (mg : Str → Option Value) (W : WX) (m : MT) : TT := fun σ H Q => ∃ α E S, Sim K H α S ∧ RelE K H α E σ ∧ PB K mg H α (fun c d H' => W c d σ H') Q (m E S)
def iA (K : PySem.W.Frag) (mg : Str → Option Value) (W : WX) (m : MA) : TA := fun σ H Q => ∃ α E S, Sim K H α S ∧ RelE K H α E σ ∧ PL K mg H α (fun c d H' => W c d σ H') Q (m E S)
def iS (K : PySem.W.Frag) (mg : Str → Option Value) (W : WX) (m : MS) : TS := fun D σ H => ∃ α E S, Sim K H α S ∧ RelE K H α E σ ∧ PR K mg H α W D (m E S)
abbrev SE (X : Cx) (W : WX) (e : Expr) (m : ME) : Prop := PE X e (iE X.K X.mg W m)
abbrev ST (X : Cx) (W : WX) (e : Expr) (m : MT) : Prop := PT X e (iT X.K X.mg W m)
abbrev SWh (X : Cx) (W : WX) (e : Expr) (m : MT) : Prop := PW X e (iT X.K X.mg W m)
abbrev SA (X : Cx) (W : WX) (es : List Expr) (m : MA) : Prop := PA X es (iA X.K X.mg W m)
abbrev SS (X : Cx) (W : WX) (st : Stmt) (m : MS) : Prop := PS X st (iS X.K X.mg W m)
abbrev SSs (X : Cx) (W : WX) (sts : List Stmt) (m : MS) : Prop := PSs X sts (iS X.K X.mg W m)
section
variable {X : Cx} {W : WX} {e : Expr} {es : List Expr} {st : Stmt} {sts : List Stmt}
theorem PE.imp {t u : TE} (h : PE X e t) (w : ∀ σ H Q, u σ H Q → t σ H Q) : PE X e u := ⟨fun pins s σ H Q I q => h.run pins s σ H Q I (w σ H Q q)⟩
theorem PT.imp {t u : TT} (h : PT X e t) (w : ∀ σ H Q, u σ H Q → t σ H Q) : PT X e u := ⟨fun pins s σ H Q I q => h.run pins s σ H Q I (w σ H Q q)⟩
theorem PW.imp {t u : TT} (h : PW X e t) (w : ∀ σ H Q, u σ H Q → t σ H Q) : PW X e u := ⟨fun wh pins s σ H Q I q => h.run wh pins s σ H Q I (w σ H Q q)⟩
theorem PA.imp {t u : TA} (h : PA X es t) (w : ∀ σ H Q, u σ H Q → t σ H Q) : PA X es u := ⟨fun pos pins s σ H Q I q => h.run pos pins s σ H Q I (w σ H Q q)⟩
theorem PS.imp {t u : TS} (h : PS X st t) (w : ∀ D σ H, u D σ H → t D σ H) : PS X st u := ⟨fun pins s σ H D I q => h.run pins s σ H D I (w D σ H q)⟩
theorem PSs.imp {t u : TS} (h : PSs X sts t) (w : ∀ D σ H, u D σ H → t D σ H) : PSs X sts u := ⟨fun pins s σ H D I q => h.run pins s σ H D I (w D σ H q)⟩
end
/-- going on behind a value -/
def Res.then {α β : Type} (r : Res α) (f : α → Store → Res β) : Res β := match r with
  | .ok a S => f a S
  | .exc c fs S => .exc c fs S
  | .no => .no
def Res.thenS {α : Type} (E : En) (r : Res α) (f : α → Store → SR) : SR := match r with
  | .ok a S => f a S
  | .exc c fs S => .exc c fs E S
  | .no => .no
def SR.thenS (r : SR) (f : En → Store → SR) : SR := match r with
  | .nx E S => f E S
  | r => r
section
variable {K : PySem.W.Frag} {mg : Str → Option Value} {H : Hp} {α : List Addr}
/-- an expression, then what goes on: into HandS's nesting -/
theorem iE.bind {W : WX} {σ : L2.St} {S : Store} {E : En} {m : ME} {Q : VK} {β : Type} {f : D → Store → Res β} {PP : Hp → List Addr → Res β → Prop}
    (s : Sim K H α S) (re : RelE K H α E σ)
    (hx : ∀ c fs S', PP H α (.exc c fs S') → ∀ α' H' cls d, Stp α H α' H' → Sim K H' α' S' → ExcV mg K H' α' c fs cls d → W cls d σ H')
    (hno : ¬ PP H α .no)
    (hm : ∀ α' H' r, Stp α H α' H' → PP H α r → PP H' α' r)
    (h : PP H α ((m E S).then f))
    (k : ∀ x S' α' H' v, Stp α H α' H' → Sim K H' α' S' → RelE K H' α' E σ → Rep K H' α' x v → PP H' α' (f x S') → Q v H') :
    iE K mg W m σ H Q := by
  refine ⟨α, E, S, s, re, ?_⟩
  cases hr : m E S with
  | ok x S' =>
    rw [hr] at h
    intro α' H' v p s' r
    exact k x S' α' H' v p s' (re.mono (p.grow s) p.pre) r (hm α' H' _ p h)
  | exc c fs S' => rw [hr] at h; exact hx c fs S' h
  | no => rw [hr] at h; exact absurd h hno
end
end L3

set_option Elab.async false
set_option linter.all false
set_option maxRecDepth 100000
namespace L3
open PySem PySem.Spec PyProof.Rows L2

section
variable {K : PySem.W.Frag} {mg : Str → Option Value} {H : Hp} {α : List Addr} {W : WX} {σ : L2.St} {S : Store} {E : En} {m : ME} {R : VK}
theorem iE.thenV {Q : VK} {f : D → Store → Res D} (s : Sim K H α S) (re : RelE K H α E σ) (h : PV K mg H α (fun c d H' => W c d σ H') Q ((m E S).then f))
    (k : ∀ x S' α' H' v, Stp α H α' H' → Sim K H' α' S' → RelE K H' α' E σ → Rep K H' α' x v → PV K mg H' α' (fun c d H' => W c d σ H') Q (f x S') → R v H') : iE K mg W m σ H R :=
  iE.bind (PP := fun H α r => PV K mg H α (fun c d H' => W c d σ H') Q r) s re (fun c fs S' q => q) (fun q => q) (fun α' H' r p q => q.mono p (fun _ _ x => x) fun _ _ _ x => x) h k
theorem iE.thenB {Q : Bool → Hp → Prop} {f : D → Store → Res Bool} (s : Sim K H α S) (re : RelE K H α E σ) (h : PB K mg H α (fun c d H' => W c d σ H') Q ((m E S).then f))
    (k : ∀ x S' α' H' v, Stp α H α' H' → Sim K H' α' S' → RelE K H' α' E σ → Rep K H' α' x v → PB K mg H' α' (fun c d H' => W c d σ H') Q (f x S') → R v H') : iE K mg W m σ H R :=
  iE.bind (PP := fun H α r => PB K mg H α (fun c d H' => W c d σ H') Q r) s re (fun c fs S' q => q) (fun q => q) (fun α' H' r p q => q.mono p (fun _ _ x => x) fun _ _ _ x => x) h k
theorem iE.thenL {Q : List V → Hp → Prop} {f : D → Store → Res (List D)} (s : Sim K H α S) (re : RelE K H α E σ) (h : PL K mg H α (fun c d H' => W c d σ H') Q ((m E S).then f))
    (k : ∀ x S' α' H' v, Stp α H α' H' → Sim K H' α' S' → RelE K H' α' E σ → Rep K H' α' x v → PL K mg H' α' (fun c d H' => W c d σ H') Q (f x S') → R v H') : iE K mg W m σ H R :=
  iE.bind (PP := fun H α r => PL K mg H α (fun c d H' => W c d σ H') Q r) s re (fun c fs S' q => q) (fun q => q) (fun α' H' r p q => q.mono p (fun _ _ x => x) fun _ _ _ x => x) h k
theorem iE.thenR {DD : Ends} {f : D → Store → SR} (s : Sim K H α S) (re : RelE K H α E σ) (h : PR K mg H α W DD ((m E S).thenS E f))
    (k : ∀ x S' α' H' v, Stp α H α' H' → Sim K H' α' S' → RelE K H' α' E σ → Rep K H' α' x v → PR K mg H' α' W DD (f x S') → R v H') : iE K mg W m σ H R := by
  refine ⟨α, E, S, s, re, ?_⟩
  cases hr : m E S with
  | ok x S' =>
    rw [hr] at h
    intro α' H' v p s' r
    exact k x S' α' H' v p s' (re.mono (p.grow s) p.pre) r (h.mono p (fun _ _ q => q) (fun _ _ q => q) (fun _ _ q => q) (fun _ _ q => q) fun _ _ _ _ q => q)
  | exc c fs S' => rw [hr] at h; exact fun α' H' cls d p s' e => h α' H' σ cls d p s' (re.mono (p.grow s) p.pre) e
  | no => rw [hr] at h; exact h
variable {mt : MT} {ma : MA}
theorem iT.thenB {Q R : Bool → Hp → Prop} {f : Bool → Store → Res Bool} (s : Sim K H α S) (re : RelE K H α E σ) (h : PB K mg H α (fun c d H' => W c d σ H') Q ((mt E S).then f))
    (k : ∀ x S' α' H', Stp α H α' H' → Sim K H' α' S' → RelE K H' α' E σ → PB K mg H' α' (fun c d H' => W c d σ H') Q (f x S') → R x H') : iT K mg W mt σ H R := by
  refine ⟨α, E, S, s, re, ?_⟩
  cases hr : mt E S with
  | ok x S' =>
    rw [hr] at h
    intro α' H' p s'
    exact k x S' α' H' p s' (re.mono (p.grow s) p.pre) (PB.mono h p (fun _ _ q => q) fun _ _ _ q => q)
  | exc c fs S' => rw [hr] at h; exact h
  | no => rw [hr] at h; exact h
theorem iT.thenV {Q : VK} {R : Bool → Hp → Prop} {f : Bool → Store → Res D} (s : Sim K H α S) (re : RelE K H α E σ) (h : PV K mg H α (fun c d H' => W c d σ H') Q ((mt E S).then f))
    (k : ∀ x S' α' H', Stp α H α' H' → Sim K H' α' S' → RelE K H' α' E σ → PV K mg H' α' (fun c d H' => W c d σ H') Q (f x S') → R x H') : iT K mg W mt σ H R := by
  refine ⟨α, E, S, s, re, ?_⟩
  cases hr : mt E S with
  | ok x S' =>
    rw [hr] at h
    intro α' H' p s'
    exact k x S' α' H' p s' (re.mono (p.grow s) p.pre) (PV.mono h p (fun _ _ q => q) fun _ _ _ q => q)
  | exc c fs S' => rw [hr] at h; exact h
  | no => rw [hr] at h; exact h
theorem iT.thenR {DD : Ends} {R : Bool → Hp → Prop} {f : Bool → Store → SR} (s : Sim K H α S) (re : RelE K H α E σ) (h : PR K mg H α W DD ((mt E S).thenS E f))
    (k : ∀ x S' α' H', Stp α H α' H' → Sim K H' α' S' → RelE K H' α' E σ → PR K mg H' α' W DD (f x S') → R x H') : iT K mg W mt σ H R := by
  refine ⟨α, E, S, s, re, ?_⟩
  cases hr : mt E S with
  | ok x S' =>
    rw [hr] at h
    intro α' H' p s'
    exact k x S' α' H' p s' (re.mono (p.grow s) p.pre) (h.mono p (fun _ _ q => q) (fun _ _ q => q) (fun _ _ q => q) (fun _ _ q => q) fun _ _ _ _ q => q)
  | exc c fs S' => rw [hr] at h; exact fun α' H' cls d p s' e => h α' H' σ cls d p s' (re.mono (p.grow s) p.pre) e
  | no => rw [hr] at h; exact h
theorem iA.thenV {Q : VK} {R : List V → Hp → Prop} {f : List D → Store → Res D} (s : Sim K H α S) (re : RelE K H α E σ) (h : PV K mg H α (fun c d H' => W c d σ H') Q ((ma E S).then f))
    (k : ∀ x S' α' H' v, Stp α H α' H' → Sim K H' α' S' → RelE K H' α' E σ → Reps K H' α' x v → PV K mg H' α' (fun c d H' => W c d σ H') Q (f x S') → R v H') : iA K mg W ma σ H R := by
  refine ⟨α, E, S, s, re, ?_⟩
  cases hr : ma E S with
  | ok x S' =>
    rw [hr] at h
    intro α' H' v p s' r
    exact k x S' α' H' v p s' (re.mono (p.grow s) p.pre) r (PV.mono h p (fun _ _ q => q) fun _ _ _ q => q)
  | exc c fs S' => rw [hr] at h; exact h
  | no => rw [hr] at h; exact h
theorem iA.thenL {Q : List V → Hp → Prop} {R : List V → Hp → Prop} {f : List D → Store → Res (List D)} (s : Sim K H α S) (re : RelE K H α E σ) (h : PL K mg H α (fun c d H' => W c d σ H') Q ((ma E S).then f))
    (k : ∀ x S' α' H' v, Stp α H α' H' → Sim K H' α' S' → RelE K H' α' E σ → Reps K H' α' x v → PL K mg H' α' (fun c d H' => W c d σ H') Q (f x S') → R v H') : iA K mg W ma σ H R := by
  refine ⟨α, E, S, s, re, ?_⟩
  cases hr : ma E S with
  | ok x S' =>
    rw [hr] at h
    intro α' H' v p s' r
    exact k x S' α' H' v p s' (re.mono (p.grow s) p.pre) r (PL.mono h p (fun _ _ q => q) fun _ _ _ q => q)
  | exc c fs S' => rw [hr] at h; exact h
  | no => rw [hr] at h; exact h
theorem PV.ret {x : D} {v : V} {W' : Value → Option Addr → Hp → Prop} {Q : VK} (h : PV K mg H α W' Q (.ok x S)) (s : Sim K H α S) (r : Rep K H α x v) : Q v H := h α H v Stp.refl s r
theorem PB.ret {x : Bool} {W' : Value → Option Addr → Hp → Prop} {Q : Bool → Hp → Prop} (h : PB K mg H α W' Q (.ok x S)) (s : Sim K H α S) : Q x H := h α H Stp.refl s
theorem PL.ret {x : List D} {v : List V} {W' : Value → Option Addr → Hp → Prop} {Q : List V → Hp → Prop} (h : PL K mg H α W' Q (.ok x S)) (s : Sim K H α S) (r : Reps K H α x v) : Q v H := h α H v Stp.refl s r
end

/-! ### names, constants -/
def mVar (i : Nat) : ME := fun E S => match E[i]? with
  | some (some d) => .ok d S
  | _ => .no
def mC (d : D) : ME := fun _ S => .ok d S
section
variable {X : Cx} {W : WX} {pos : Pos}
theorem e_var (i : Nat) {x : Str} (hN : X.N[i]? = some x := by rfl) (hv : Vis X.env.scope x := by first | exact Or.inl rfl | exact Or.inr (Or.inl rfl) | exact Or.inr (Or.inr rfl)) (hd : (x == ("__debug__" : Str)) = false := by decide)
    (hcd : (x == ("__classdict__" : Str)) = false := by decide) : SE X W (.Name x pos) (mVar i) :=
  PE.imp (pv i hN hv hd hcd) fun σ H Q ⟨α, E, S, s, re, h⟩ => by
    unfold mVar at h
    cases e : E[i]? with
    | none => rw [e] at h; exact h.elim
    | some o =>
      cases o with
      | none => rw [e] at h; exact h.elim
      | some d =>
        rw [e] at h
        obtain ⟨v, ev, r⟩ := re.at_ i d e
        exact ⟨v, ev, h.ret s r⟩
theorem e_c {e : Expr} {v : V} {d : D} (h : PE X e (tC v)) (r : ∀ K H α, Rep K H α d v) : SE X W e (mC d) :=
  PE.imp h fun σ H Q ⟨α, E, S, s, re, h⟩ => h.ret s (r _ _ _)
theorem e_int {i : Int} {j : Nat} : SE X W (.Constant (.int i) j pos) (mC (.int i)) := e_c pe_int fun _ _ _ => .int i
theorem e_bl {b : Bool} {j : Nat} : SE X W (.Constant (.bool b) j pos) (mC (.bl b)) := e_c pe_bl fun _ _ _ => .bl b
theorem e_str {x : Str} {j : Nat} : SE X W (.Constant (.str x) j pos) (mC (.str x)) := e_c pe_str fun _ _ _ => .str x
theorem e_non {j : Nat} : SE X W (.Constant .none j pos) (mC .non) := e_c pe_non fun _ _ _ => .non
theorem e_gint {x : Str} {i : Int} (hg : Gl X x) (hm : ∃ t, X.mg x = some (.int i t)) (hdb : (x == ("__debug__" : Str)) = false := by decide) : SE X W (.Name x pos) (mC (.int i)) :=
  let ⟨t, hm⟩ := hm
  e_c (v := V.int i) (pe_glob hg hm ⟨t, rfl⟩ hdb) fun _ _ _ => .int i
theorem e_gstr {x y : Str} (hg : Gl X x) (hm : ∃ t, X.mg x = some (.str y t)) (hdb : (x == ("__debug__" : Str)) = false := by decide) : SE X W (.Name x pos) (mC (.str y)) :=
  let ⟨t, hm⟩ := hm
  e_c (v := V.str y) (pe_glob hg hm ⟨t, rfl⟩ hdb) fun _ _ _ => .str y
end

/-! ### operators by values -/
def PO (K : PySem.W.Frag) (H : Hp) (α : List Addr) (Q : VK) : Option (D × Store) → Prop
  | some (x, S) => ∀ α' H' v, Stp α H α' H' → Sim K H' α' S → Rep K H' α' x v → Q v H'
  | none => False
def Res.of : Option (D × Store) → Res D
  | some (x, S) => .ok x S
  | none => .no
theorem PV.of {K : PySem.W.Frag} {mg : Str → Option Value} {H : Hp} {α : List Addr} {W' : Value → Option Addr → Hp → Prop} {Q : VK} {o : Option (D × Store)} (h : PV K mg H α W' Q (Res.of o)) : PO K H α Q o := by
  cases o with
  | none => exact h
  | some p => exact h
abbrev F2 := D → D → Store → Option (D × Store)
abbrev F1 := D → Store → Option (D × Store)
abbrev FL := List D → Store → Option (D × Store)
def OpS (X : Cx) (fv : Value → Value → Sem Value) (f : F2) : Prop := ∃ r, OpR X fv r ∧ ∀ H α S x y v u Q, Sim X.K H α S → Rep X.K H α x v → Rep X.K H α y u → PO X.K H α Q (f x y S) → r v u H Q
def IxS (X : Cx) (f : F2) : Prop := ∃ r, IxR X r ∧ ∀ H α S x y v u Q, Sim X.K H α S → Rep X.K H α x v → Rep X.K H α y u → PO X.K H α Q (f x y S) → r v u H Q
def UnS (X : Cx) (fv : Value → Sem Value) (f : F1) : Prop := ∃ r, UnR X fv r ∧ ∀ H α S x v Q, Sim X.K H α S → Rep X.K H α x v → PO X.K H α Q (f x S) → r v H Q
def CallS (X : Cx) (fv : Value) (f : FL) : Prop := ∃ r, CallR X fv r ∧ ∀ H α S xs vs Q, Sim X.K H α S → Reps X.K H α xs vs → PO X.K H α Q (f xs S) → r vs H Q
def MtS (X : Cx) (id : String) (f : D → FL) : Prop := ∃ r, MtR X id r ∧ ∀ H α S x xs v vs Q, Sim X.K H α S → Rep X.K H α x v → Reps X.K H α xs vs → PO X.K H α Q (f x xs S) → r v vs H Q
theorem opR_or {X : Cx} {fv : Value → Value → Sem Value} {r r' : R2} (h : OpR X fv r) (h' : OpR X fv r') : OpR X fv (fun x y H Q => r x y H Q ∨ r' x y H Q) := by
  intro pins s σ H x y v u Q I rx ry q
  rcases q with q | q
  · exact h pins s σ H x y v u Q I rx ry q
  · exact h' pins s σ H x y v u Q I rx ry q
theorem callR_or {X : Cx} {fv : Value} {r r' : List V → Hp → VK → Prop} (h : CallR X fv r) (h' : CallR X fv r') : CallR X fv (fun x H Q => r x H Q ∨ r' x H Q) := by
  intro pins s σ H xs us Q I rx q
  rcases q with q | q
  · exact h pins s σ H xs us Q I rx q
  · exact h' pins s σ H xs us Q I rx q
def mOp (f : F2) (a b : ME) : ME := fun E S => (a E S).then fun x S1 => (b E S1).then fun y S2 => Res.of (f x y S2)
def mUn (f : F1) (a : ME) : ME := fun E S => (a E S).then fun x S1 => Res.of (f x S1)
def mFn (f : FL) (a : MA) : ME := fun E S => (a E S).then fun x S1 => Res.of (f x S1)
def mNil : MA := fun _ S => .ok [] S
def mCons (a : ME) (r : MA) : MA := fun E S => (a E S).then fun x S1 => (r E S1).then fun xs S2 => .ok (x :: xs) S2
section
variable {X : Cx} {W : WX} {pos : Pos} {a b c e : Expr} {es : List Expr} {ma mb mc m : ME}
theorem tOp_of {f : F2} {r : R2} (hr : ∀ H α S x y v u Q, Sim X.K H α S → Rep X.K H α x v → Rep X.K H α y u → PO X.K H α Q (f x y S) → r v u H Q) (σ : L2.St) (H : Hp) (Q : VK) (h : iE X.K X.mg W (mOp f ma mb) σ H Q) : tOp r (iE X.K X.mg W ma) (iE X.K X.mg W mb) σ H Q := by
  obtain ⟨α, E, S, s, re, h⟩ := h
  refine iE.thenV s re h fun x S1 α1 H1 v p1 s1 re1 r1 h1 => ?_
  refine iE.thenV s1 re1 h1 fun y S2 α2 H2 u p2 s2 re2 r2 h2 => ?_
  exact hr H2 α2 S2 x y v u Q s2 (r1.mono (p2.grow s1) p2.pre) r2 h2.of
theorem e_op {op : Operator} {f : F2} (ho : OpS X (binaryOp op) f) (ha : SE X W a ma) (hb : SE X W b mb) : SE X W (.BinOp a op b pos) (mOp f ma mb) :=
  let ⟨r, h1, h2⟩ := ho
  PE.imp (pe_op h1 ha hb) fun σ H Q h => tOp_of h2 σ H Q h
theorem e_cmp {op : CmpOp} {f : F2} (ho : OpS X (compareOp op) f) (ha : SE X W a ma) (hb : SE X W b mb) (hm : behindInMarks op b = false := by first | exact nomark _ | rfl) : SE X W (.Compare a [op] [b] pos) (mOp f ma mb) :=
  let ⟨r, h1, h2⟩ := ho
  PE.imp (pe_cmpR h1 ha hb hm) fun σ H Q h => tOp_of h2 σ H Q h
theorem e_ix {f : F2} (ho : IxS X f) (ha : SE X W a ma) (hb : SE X W b mb) (hs : PlainIx b := by exact fun _ _ => rfl) : SE X W (.Subscript a b pos) (mOp f ma mb) :=
  let ⟨r, h1, h2⟩ := ho
  PE.imp (pe_ix h1 ha hb hs) fun σ H Q h => tOp_of h2 σ H Q h
theorem e_un {op : UnaryOp} {f : F1} (ho : UnS X (unaryOp op) f) (ha : SE X W a ma) : SE X W (.UnaryOp op a pos) (mUn f ma) :=
  let ⟨r, h1, h2⟩ := ho
  PE.imp (pe_un h1 ha) fun σ H Q ⟨α, E, S, s, re, h⟩ => iE.thenV s re h fun x S1 α1 H1 v p1 s1 re1 r1 q => h2 H1 α1 S1 x v Q s1 r1 q.of
theorem a_nil : SA X W [] mNil := PA.imp pa_nil fun σ H Q ⟨α, E, S, s, re, h⟩ => h.ret s .nil
theorem a_cons {mr : MA} (ha : SE X W e m) (hr : SA X W es mr) (he : starEach (e :: es) X.env = (false, eval e X.env) :: starEach es X.env := by rfl) : SA X W (e :: es) (mCons m mr) :=
  PA.imp (pa_cons ha hr he) fun σ H Q ⟨α, E, S, s, re, h⟩ => by
    refine iE.thenL s re h fun x S1 α1 H1 v p1 s1 re1 r1 h1 => ?_
    refine iA.thenL s1 re1 h1 fun xs S2 α2 H2 vs p2 s2 re2 r2 h2 => ?_
    exact h2.ret s2 (.cons (r1.mono (p2.grow s1) p2.pre) r2)
end
/-! ### tuples and lists -/
def fTup : FL := fun xs S => if xs.length ≤ 16777216 then some (.tup xs, S) else none
def fLst : FL := fun xs S => if xs.length ≤ 16777216 then some (.ref S.length, S ++ [.lst xs]) else none
section
variable {K : PySem.W.Frag} {H : Hp} {α : List Addr} {S : Store}
/-- a new tuple -/
theorem PO.tup {xs : List D} {vs : List V} {Q : VK} {p : Addr} (s : Sim K H α S) (r : Reps K H α xs vs) (h : PO K H α Q (some (.tup xs, S))) (hp : H p = none) : Q (.ref p) (upd H p (.tup vs)) :=
  h α _ (.ref p) (Stp.fresh hp) (s.fresh hp) (.tup upd_same (r.mono (grow_new hp) Pre.refl))
/-- a new list -/
theorem PO.lst {xs : List D} {vs : List V} {Q : VK} {p : Addr} (s : Sim K H α S) (r : Reps K H α xs vs) (h : PO K H α Q (some (.ref S.length, S ++ [.lst xs]))) (hp : H p = none) : Q (.ref p) (upd H p (.lst vs)) :=
  h (α ++ [p]) _ (.ref p) (Stp.push hp) (s.push hp _ ⟨vs, upd_same, r.mono (grow_new hp) Pre.app⟩) (.ref (by rw [← s.len]; simp))
end
section
variable {X : Cx} {W : WX} {pos : Pos} {a b c e : Expr} {es : List Expr} {ma mb mc m : ME}
theorem iA.fn {f : FL} {ml : MA} {r : List V → Hp → VK → Prop} (hr : ∀ H α S xs vs Q, Sim X.K H α S → Reps X.K H α xs vs → PO X.K H α Q (f xs S) → r vs H Q) (σ : L2.St) (H : Hp) (Q : VK) (h : iE X.K X.mg W (mFn f ml) σ H Q) : iA X.K X.mg W ml σ H fun vs H1 => r vs H1 Q := by
  obtain ⟨α, E, S, s, re, h⟩ := h
  refine iA.thenV s re h fun xs S1 α1 H1 vs p1 s1 re1 r1 h1 => ?_
  exact hr H1 α1 S1 xs vs Q s1 r1 h1.of
theorem e_tup {ml : MA} {x1} (h : SA X W es ml) : SE X W (.Tuple es x1 pos) (mFn fTup ml) :=
  PE.imp (pe_tup h) fun σ H Q q => iA.fn (f := fTup) (r := fun xs H1 Q => xs.length ≤ sizeLine ∧ ∀ p, H1 p = none → Q (.ref p) (upd H1 p (.tup xs))) (fun H α S xs vs Q s r q => by
    unfold fTup at q
    split at q
    · rename_i hl
      exact ⟨by rw [sizeLine_eq, ← r.length]; exact hl, fun p hp => PO.tup s r q hp⟩
    · exact q.elim) σ H Q q
theorem e_lst {ml : MA} (h : SA X W es ml) : SE X W (.List es pos) (mFn fLst ml) :=
  PE.imp (pe_lst h) fun σ H Q q => iA.fn (f := fLst) (r := fun xs H1 Q => xs.length ≤ sizeLine ∧ ∀ p, H1 p = none → Q (.ref p) (upd H1 p (.lst xs))) (fun H α S xs vs Q s r q => by
    unfold fLst at q
    split at q
    · rename_i hl
      exact ⟨by rw [sizeLine_eq, ← r.length]; exact hl, fun p hp => PO.lst s r q hp⟩
    · exact q.elim) σ H Q q
/-- a built-in function, a built-in type called -/
theorem e_callB {x : Str} {p : Pos} {id : String} {f : FL} {ml : MA} (hc : CallS X (.builtin id) f) (hg : Gl X x) (hm : X.mg x = none) (hv : bootBuiltins x = some (.builtin id)) (ha : SA X W (e :: es) ml) (hn : x ≠ "__name__" := by decide) (hdb : (x == ("__debug__" : Str)) = false := by decide)
    (he : starEach (e :: es) X.env = (false, eval e X.env) :: starEach es X.env := by rfl) (hpl : (backTo pos (starEach es X.env)).any (·.1) = false := by rfl) : SE X W (.Call (.Name x p) (e :: es) [] pos) (mFn f ml) :=
  let ⟨r, h1, h2⟩ := hc
  PE.imp (pe_callB h1 hg hm hv ha hn hdb he hpl) fun σ H Q q => iA.fn h2 σ H Q q
theorem e_callTy {x : Str} {p : Pos} {T : String} {f : FL} {ml : MA} (hc : CallS X (.type T) f) (hg : Gl X x) (hm : X.mg x = none) (hv : bootBuiltins x = some (.type T)) (ha : SA X W (e :: es) ml) (hn : x ≠ "__name__" := by decide) (hdb : (x == ("__debug__" : Str)) = false := by decide)
    (he : starEach (e :: es) X.env = (false, eval e X.env) :: starEach es X.env := by rfl) (hpl : (backTo pos (starEach es X.env)).any (·.1) = false := by rfl) : SE X W (.Call (.Name x p) (e :: es) [] pos) (mFn f ml) :=
  let ⟨r, h1, h2⟩ := hc
  PE.imp (pe_callTy h1 hg hm hv ha hn hdb he hpl) fun σ H Q q => iA.fn h2 σ H Q q
end
end L3

set_option Elab.async false
set_option linter.all false
set_option maxRecDepth 100000
namespace L3
open PySem PySem.Spec PyProof.Rows L2

/-! ### arithmetic -/
def addD : F2
  | .int i, .int j, S => some (.int (i + j), S)
  | .str a, .str b, S => if a.length + b.length ≤ 16777216 then some (.str (a ++ b), S) else none
  | .tup xs, .tup ys, S => if xs.length + ys.length ≤ 16777216 then some (.tup (xs ++ ys), S) else none
  | .ref i, .ref j, S => match S[i]?, S[j]? with
    | some (.lst xs), some (.lst ys) => if xs.length + ys.length ≤ 16777216 then some (.ref S.length, S ++ [.lst (xs ++ ys)]) else none
    | _, _ => none
  | _, _, _ => none
def subD : F2
  | .int i, .int j, S => some (.int (i - j), S)
  | _, _, _ => none
def mulD : F2
  | .int i, .int j, S => if (-18446744073709551616 < i ∧ i < 18446744073709551616) ∨ (-18446744073709551616 < j ∧ j < 18446744073709551616) then some (.int (i * j), S) else none
  | .ref l, .int k, S => match S[l]? with
    | some (.lst xs) => if 0 ≤ k ∧ k < 16777216 ∧ xs.length * k.toNat ≤ 16777216 then some (.ref S.length, S ++ [.lst (List.replicate k.toNat xs).flatten]) else none
    | _ => none
  | .tup xs, .int k, S => if xs ≠ [] ∧ 2 ≤ k ∧ k ≤ 1000 ∧ xs.length ≤ 1000 then some (.tup (List.replicate k.toNat xs).flatten, S) else none
  | _, _, _ => none
def divD : F2
  | .int i, .int j, S => if 0 < j ∧ j < 1073741824 then some (.int (i / j), S) else none
  | _, _, _ => none
def modD : F2
  | .int i, .int j, S => if 0 < j then some (.int (i % j), S) else none
  | _, _, _ => none
def powD : F2
  | .int i, .int j, S => if 0 ≤ j ∧ j ≤ 1000000 ∧ i.natAbs < 18446744073709551616 then some (.int (i ^ j.toNat), S) else none
  | _, _, _ => none
def negD : F1
  | .int i, S => some (.int (-i), S)
  | _, _ => none

section
variable {K : PySem.W.Frag} {H : Hp} {α : List Addr} {S : Store}
theorem PO.ret {x : D} {v : V} {Q : VK} (h : PO K H α Q (some (x, S))) (s : Sim K H α S) (r : Rep K H α x v) : Q v H := h α H v Stp.refl s r
theorem Reps.rep {xs : List D} {vs : List V} (r : Reps K H α xs vs) : ∀ n : Nat, Reps K H α (List.replicate n xs).flatten (List.replicate n vs).flatten
  | 0 => .nil
  | n + 1 => by
    rw [List.replicate_succ, List.replicate_succ, List.flatten_cons, List.flatten_cons]
    exact r.append (Reps.rep r n)
theorem Reps.nil_iff {xs : List D} {vs : List V} (r : Reps K H α xs vs) : xs = [] ↔ vs = [] := by
  cases r <;> simp
/-- a list of the store -/
theorem Sim.lst {i : Nat} {xs : List D} {a : Addr} (s : Sim K H α S) (e : S[i]? = some (.lst xs)) (ea : α[i]? = some a) : ∃ vs, H a = some (.lst vs) ∧ Reps K H α xs vs := s.obj i _ a e ea
end
section
variable {X : Cx}
theorem ops_int {op : Operator} {C : Int → Int → Prop} {g : Int → Int → V} {f : F2} (h : OpR X (binaryOp op) (rI C g)) (hf : ∀ K H α S x y v u (Q : VK), Sim K H α S → Rep K H α x v → Rep K H α y u → PO K H α Q (f x y S) → ∃ i j, v = .int i ∧ u = .int j ∧ C i j ∧ Q (g i j) H) : OpS X (binaryOp op) f :=
  ⟨_, h, fun H α S x y v u Q s r1 r2 q => hf _ H α S x y v u Q s r1 r2 q⟩
theorem os_add : OpS X (binaryOp .Add) addD := by
  refine ⟨_, opR_or op_add (opR_or op_add_str (opR_or op_catA op_cat)), fun H α S x y v u Q s r1 r2 q => ?_⟩
  cases r1 with
  | int i =>
    cases r2 with
    | int j => exact .inl ⟨i, j, rfl, rfl, q.ret s (.int _)⟩
    | _ => exact q.elim
  | str a =>
    cases r2 with
    | str b =>
      simp only [addD] at q
      split at q
      · rename_i hl
        exact .inr (.inl ⟨a, b, rfl, rfl, by rw [sizeLine_eq]; exact hl, q.ret s (.str _)⟩)
      · exact q.elim
    | _ => exact q.elim
  | @tup a vs ds t1 rs1 =>
    cases r2 with
    | @tup b us es t2 rs2 =>
      simp only [addD] at q
      split at q
      · rename_i hl
        refine .inr (.inr (.inl ⟨a, b, vs, us, rfl, rfl, SqT.of t1, SqT.of t2, by rw [sizeLine_eq, ← rs1.length, ← rs2.length]; exact hl, fun e => ?_, fun _ e => ?_, fun _ _ p hp => PO.tup s (rs1.append rs2) q hp⟩))
        · have e' := rs1.nil_iff.mpr e
          subst e'
          exact q.ret s (.tup t2 rs2)
        · have e' := rs2.nil_iff.mpr e
          subst e'
          rw [List.append_nil] at q
          exact q.ret s (.tup t1 rs1)
      · exact q.elim
    | _ => exact q.elim
  | @ref i a ea =>
    cases r2 with
    | @ref j b eb =>
      simp only [addD] at q
      split at q
      · rename_i xs ys e1 e2
        obtain ⟨vs, h1, rs1⟩ := s.lst e1 ea
        obtain ⟨us, h2, rs2⟩ := s.lst e2 eb
        split at q
        · rename_i hl
          exact .inr (.inr (.inr ⟨a, b, vs, us, rfl, rfl, h1, h2, by rw [sizeLine_eq, ← rs1.length, ← rs2.length]; exact hl, fun p hp => PO.lst s (rs1.append rs2) q hp⟩))
        · exact q.elim
      · exact q.elim
    | _ => exact q.elim
  | _ => exact q.elim
theorem os_sub : OpS X (binaryOp .Sub) subD := by
  refine ⟨_, op_sub, fun H α S x y v u Q s r1 r2 q => ?_⟩
  cases r1 with
  | int i =>
    cases r2 with
    | int j => exact ⟨i, j, rfl, rfl, q.ret s (.int _)⟩
    | _ => exact q.elim
  | _ => exact q.elim
theorem os_mul : OpS X (binaryOp .Mult) mulD := by
  refine ⟨_, opR_or op_mul (opR_or op_rep op_repT), fun H α S x y v u Q s r1 r2 q => ?_⟩
  cases r1 with
  | int i =>
    cases r2 with
    | int j =>
      simp only [mulD] at q
      split at q
      · rename_i h
        exact .inl ⟨i, j, rfl, rfl, h, q.ret s (.int _)⟩
      · exact q.elim
    | _ => exact q.elim
  | @ref l a ea =>
    cases r2 with
    | int k =>
      simp only [mulD] at q
      split at q
      · rename_i xs e1
        obtain ⟨vs, h1, rs1⟩ := s.lst e1 ea
        split at q
        · rename_i hc
          refine .inr (.inl ⟨a, k, vs, rfl, rfl, h1, by omega, by omega, by rw [sizeLine_eq, ← rs1.length]; exact hc.2.2, fun p hp => PO.lst s (rs1.rep _) q hp⟩)
        · exact q.elim
      · exact q.elim
    | _ => exact q.elim
  | @tup a vs ds t1 rs1 =>
    cases r2 with
    | int k =>
      simp only [mulD] at q
      split at q
      · rename_i hc
        exact .inr (.inr ⟨a, k, vs, rfl, rfl, SqT.of t1, fun e => hc.1 (rs1.nil_iff.mpr e), hc.2.1, hc.2.2.1, by rw [← rs1.length]; exact hc.2.2.2, fun p hp => PO.tup s (rs1.rep _) q hp⟩)
      · exact q.elim
    | _ => exact q.elim
  | _ => cases r2 <;> exact q.elim
theorem os_div : OpS X (binaryOp .FloorDiv) divD := by
  refine ⟨_, op_fdiv, fun H α S x y v u Q s r1 r2 q => ?_⟩
  cases r1 with
  | int i =>
    cases r2 with
    | int j =>
      simp only [divD] at q
      split at q
      · rename_i h
        exact ⟨i, j, rfl, rfl, h, q.ret s (.int _)⟩
      · exact q.elim
    | _ => exact q.elim
  | _ => exact q.elim
theorem os_mod : OpS X (binaryOp .Mod) modD := by
  refine ⟨_, op_mod, fun H α S x y v u Q s r1 r2 q => ?_⟩
  cases r1 with
  | int i =>
    cases r2 with
    | int j =>
      simp only [modD] at q
      split at q
      · rename_i h
        exact ⟨i, j, rfl, rfl, h, q.ret s (.int _)⟩
      · exact q.elim
    | _ => exact q.elim
  | _ => exact q.elim
theorem os_pow : OpS X (binaryOp .Pow) powD := by
  refine ⟨_, op_pow, fun H α S x y v u Q s r1 r2 q => ?_⟩
  cases r1 with
  | int i =>
    cases r2 with
    | int j =>
      simp only [powD] at q
      split at q
      · rename_i h
        exact ⟨i, j, rfl, rfl, h, q.ret s (.int _)⟩
      · exact q.elim
    | _ => exact q.elim
  | _ => exact q.elim
theorem us_neg : UnS X (unaryOp .USub) negD := by
  refine ⟨_, un_neg, fun H α S x v Q s r q => ?_⟩
  cases r with
  | int i => exact ⟨i, rfl, q.ret s (.int _)⟩
  | _ => exact q.elim
end

/-! ### comparisons -/
def ltD : F2
  | .int i, .int j, S => some (.bl (decide (i < j)), S)
  | _, _, _ => none
def leD : F2
  | .int i, .int j, S => some (.bl (decide (i ≤ j)), S)
  | _, _, _ => none
def gtD : F2
  | .int i, .int j, S => some (.bl (decide (j < i)), S)
  | _, _, _ => none
def geD : F2
  | .int i, .int j, S => some (.bl (decide (j ≤ i)), S)
  | _, _, _ => none
def D.isNon : D → Bool
  | .non => true
  | _ => false
def isD : F2
  | x, .non, S => some (.bl x.isNon, S)
  | .bl a, .bl b, S => some (.bl (decide (a = b)), S)
  | _, _, _ => none
def isnD : F2
  | x, .non, S => some (.bl (!x.isNon), S)
  | .bl a, .bl b, S => some (.bl (!decide (a = b)), S)
  | _, _, _ => none
theorem Rep.isNon {K : PySem.W.Frag} {H : Hp} {α : List Addr} {x : D} {v : V} (r : Rep K H α x v) : decide (v = .non) = x.isNon := by
  cases r <;> rfl
section
variable {X : Cx}
theorem cs_cmp {op : CmpOp} {p : Int → Int → Bool} {f : F2} (h : OpR X (compareOp op) (rI0 fun i j => .bl (p i j))) (hf : ∀ i j S, f (.int i) (.int j) S = some (.bl (p i j), S)) (hn : ∀ x y S, (∃ i j, x = D.int i ∧ y = D.int j) ∨ f x y S = none) : OpS X (compareOp op) f := by
  refine ⟨_, h, fun H α S x y v u Q s r1 r2 q => ?_⟩
  rcases hn x y S with ⟨i, j, rfl, rfl⟩ | e
  · cases r1; cases r2
    rw [hf] at q
    exact ⟨i, j, rfl, rfl, q.ret s (.bl _)⟩
  · rw [e] at q; exact q.elim
theorem cs_lt : OpS X (compareOp .Lt) ltD := cs_cmp op_lt (fun _ _ _ => rfl) fun x y S => by cases x <;> cases y <;> first | exact .inl ⟨_, _, rfl, rfl⟩ | exact .inr rfl
theorem cs_le : OpS X (compareOp .LtE) leD := cs_cmp op_le (fun _ _ _ => rfl) fun x y S => by cases x <;> cases y <;> first | exact .inl ⟨_, _, rfl, rfl⟩ | exact .inr rfl
theorem cs_gt : OpS X (compareOp .Gt) gtD := cs_cmp op_gt (fun _ _ _ => rfl) fun x y S => by cases x <;> cases y <;> first | exact .inl ⟨_, _, rfl, rfl⟩ | exact .inr rfl
theorem cs_ge : OpS X (compareOp .GtE) geD := cs_cmp op_ge (fun _ _ _ => rfl) fun x y S => by cases x <;> cases y <;> first | exact .inl ⟨_, _, rfl, rfl⟩ | exact .inr rfl
theorem cs_is : OpS X (compareOp .Is) isD := by
  refine ⟨_, opR_or op_isN op_isBl, fun H α S x y v u Q s r1 r2 q => ?_⟩
  cases r2 with
  | non =>
    have e : isD x .non S = some (.bl x.isNon, S) := by cases x <;> rfl
    rw [e, ← r1.isNon] at q
    exact .inl ⟨rfl, q.ret s (.bl _)⟩
  | bl b =>
    cases r1 with
    | bl a => exact .inr ⟨a, b, rfl, rfl, q.ret s (.bl _)⟩
    | _ => exact q.elim
  | _ => cases r1 <;> exact q.elim
theorem cs_isn : OpS X (compareOp .IsNot) isnD := by
  refine ⟨_, opR_or op_notN op_notBl, fun H α S x y v u Q s r1 r2 q => ?_⟩
  cases r2 with
  | non =>
    have e : isnD x .non S = some (.bl (!x.isNon), S) := by cases x <;> rfl
    rw [e, ← r1.isNon] at q
    exact .inl ⟨rfl, q.ret s (.bl _)⟩
  | bl b =>
    cases r1 with
    | bl a => exact .inr ⟨a, b, rfl, rfl, q.ret s (.bl _)⟩
    | _ => exact q.elim
  | _ => cases r1 <;> exact q.elim
end

/-! ### deep equality -/
mutual
def py (S : Store) : Nat → D → Option PyData
  | 0, _ => none
  | _ + 1, .non => some .none
  | _ + 1, .bl b => some (.bool b)
  | _ + 1, .int i => some (.int i)
  | _ + 1, .str x => some (.str x)
  | n + 1, .tup ds => (pys S n ds).map .tuple
  | _ + 1, .scr ns => some (.list (ns.map .int))
  | n + 1, .ref i => match S[i]? with
    | some (.lst xs) => (pys S n xs).map .list
    | _ => none
def pys (S : Store) : Nat → List D → Option (List PyData)
  | 0, _ => none
  | _ + 1, [] => some []
  | n + 1, d :: ds => match py S n d, pys S n ds with
    | some a, some r => some (a :: r)
    | _, _ => none
end
theorem dps_ints {K : PySem.W.Frag} {H : Hp} : ∀ ns : List Int, DpAll K H (ns.map V.int) (ns.map PyData.int)
  | [] => .nil
  | n :: ns => .cons (.int n) (dps_ints ns)
theorem py_dp {K : PySem.W.Frag} {H : Hp} {α : List Addr} {S : Store} (s : Sim K H α S) : ∀ n, (∀ d v p, Rep K H α d v → py S n d = some p → Dp K H v p) ∧ (∀ ds vs ps, Reps K H α ds vs → pys S n ds = some ps → DpAll K H vs ps)
  | 0 => ⟨fun d v p _ e => by simp [py] at e, fun ds vs ps _ e => by simp [pys] at e⟩
  | n + 1 => by
    have ih := py_dp s n
    refine ⟨fun d v p r e => ?_, fun ds vs ps r e => ?_⟩
    · cases r with
      | non => simp only [py, Option.some.injEq] at e; subst e; exact .non
      | bl b => simp only [py, Option.some.injEq] at e; subst e; exact .bl b
      | int b => simp only [py, Option.some.injEq] at e; subst e; exact .int b
      | str b => simp only [py, Option.some.injEq] at e; subst e; exact .str b
      | @tup a vs ds t rs =>
        simp only [py, Option.map_eq_some_iff] at e
        obtain ⟨ps, e1, rfl⟩ := e
        exact .tup (SqT.of t) (ih.2 _ _ _ rs e1)
      | @ref i a ea =>
        simp only [py] at e
        split at e
        · rename_i xs e1
          simp only [Option.map_eq_some_iff] at e
          obtain ⟨ps, e2, rfl⟩ := e
          obtain ⟨vs, h1, rs⟩ := s.lst e1 ea
          exact .lst (SqL.of h1) (ih.2 _ _ _ rs e2)
        · cases e
      | @scr a ns h =>
        simp only [py, Option.some.injEq] at e
        subst e
        exact .lst h.sq (dps_ints ns)
    · cases r with
      | nil => simp only [pys, Option.some.injEq] at e; subst e; exact .nil
      | cons r rs =>
        simp only [pys] at e
        split at e
        · rename_i a b e1 e2
          cases e
          exact .cons (ih.1 _ _ _ r e1) (ih.2 _ _ _ rs e2)
        · cases e
def eqB (x y : D) (S : Store) : Option Bool := match x, y with
  | .int i, .int j => some (decide (i = j))
  | .str i, .str j => some (decide (i = j))
  | .bl i, .bl j => some (decide (i = j))
  | x, y => match py S 2000 x, py S 2000 y with
    | some a, some b => if SeqAt.shaped a && SeqAt.shaped b then some (PyData.eqv a b) else none
    | _, _ => none
def eqD : F2 := fun x y S => (eqB x y S).map fun b => (.bl b, S)
def neD : F2 := fun x y S => (eqB x y S).map fun b => (.bl (!b), S)
theorem eqB_dp {K : PySem.W.Frag} {H : Hp} {α : List Addr} {S : Store} {x y : D} {v u : V} {b : Bool} (s : Sim K H α S) (r1 : Rep K H α x v) (r2 : Rep K H α y u) (h : eqB x y S = some b) :
    (scal v u = true ∧ b = decide (v = u)) ∨ ∃ d e, Dp K H v d ∧ Dp K H u e ∧ SeqAt.shaped d = true ∧ SeqAt.shaped e = true ∧ b = PyData.eqv d e := by
  unfold eqB at h
  split at h
  · cases r1; cases r2; cases h
    exact .inl ⟨rfl, by simp⟩
  · cases r1; cases r2; cases h
    exact .inl ⟨rfl, by simp⟩
  · cases r1; cases r2; cases h
    exact .inl ⟨rfl, by simp⟩
  · split at h
    · rename_i a c e1 e2
      split at h
      · rename_i hs
        cases h
        rw [Bool.and_eq_true] at hs
        exact .inr ⟨a, c, (py_dp s _).1 _ _ _ r1 e1, (py_dp s _).1 _ _ _ r2 e2, hs.1, hs.2, rfl⟩
      · cases h
    · cases h
section
variable {X : Cx}
theorem cs_eq (hu : X.A.units + 64 < cLine) : OpS X (compareOp .Eq) eqD := by
  refine ⟨_, opR_or op_eq (op_eqD hu), fun H α S x y v u Q s r1 r2 q => ?_⟩
  unfold eqD at q
  cases e : eqB x y S with
  | none => rw [e] at q; exact q.elim
  | some b =>
    rw [e] at q
    have q := PO.ret q s (.bl b)
    rcases eqB_dp s r1 r2 e with ⟨h1, h2⟩ | ⟨d, f, h1, h2, h3, h4, h5⟩
    · exact .inl ⟨h1, by rw [← h2]; exact q⟩
    · exact .inr ⟨d, f, h1, h2, h3, h4, by rw [← h5]; exact q⟩
theorem cs_ne (hu : X.A.units + 64 < cLine) : OpS X (compareOp .NotEq) neD := by
  refine ⟨_, opR_or op_ne (op_neD hu), fun H α S x y v u Q s r1 r2 q => ?_⟩
  unfold neD at q
  cases e : eqB x y S with
  | none => rw [e] at q; exact q.elim
  | some b =>
    rw [e] at q
    have q := PO.ret q s (.bl !b)
    rcases eqB_dp s r1 r2 e with ⟨h1, h2⟩ | ⟨d, f, h1, h2, h3, h4, h5⟩
    · exact .inl ⟨h1, by rw [← h2]; exact q⟩
    · exact .inr ⟨d, f, h1, h2, h3, h4, by rw [← h5]; exact q⟩
end

/-! ### places -/
def ixD : F2
  | .tup xs, .int i, S => (atI xs i).map fun x => (x, S)
  | .str z, .int i, S => if z.length ≤ 16777216 then (atI z.cps.toList i).map fun c => (.str ⟨#[c]⟩, S) else none
  | .ref l, .int i, S => match S[l]? with
    | some (.lst xs) => (atI xs i).map fun x => (x, S)
    | _ => none
  | .scr ns, .int i, S => (atI ns i).map fun n => (.int n, S)
  | _, _, _ => none
theorem atI_map {β γ : Type} {xs : List β} {i : Int} {x : β} (f : β → γ) (h : atI xs i = some x) : atI (xs.map f) i = some (f x) := by
  unfold atI at h ⊢
  rw [List.length_map]
  cases e : ixN xs.length i with
  | none => rw [e] at h; cases h
  | some j =>
    rw [e] at h
    have h : xs[j]? = some x := h
    show (xs.map f)[j]? = some (f x)
    rw [List.getElem?_map, h]; rfl
theorem atI_rep {K : PySem.W.Frag} {H : Hp} {α : List Addr} {xs : List D} {vs : List V} {i : Int} {x : D} (r : Reps K H α xs vs) (h : atI xs i = some x) : ∃ v, atI vs i = some v ∧ Rep K H α x v := by
  unfold atI at h ⊢
  rw [← r.length]
  cases e : ixN xs.length i with
  | none => rw [e] at h; cases h
  | some j =>
    rw [e] at h
    exact r.get h
section
variable {X : Cx}
theorem is_ix : IxS X ixD := by
  refine ⟨_, ix_seq, fun H α S x y v u Q s r1 r2 q => ?_⟩
  cases r1 with
  | @tup a vs ds t rs =>
    cases r2 with
    | int i =>
      simp only [ixD] at q
      cases e : atI ds i with
      | none => rw [e] at q; exact q.elim
      | some d =>
        rw [e] at q
        obtain ⟨w, e2, r⟩ := atI_rep rs e
        exact .inr (.inl ⟨a, vs, i, w, rfl, rfl, SqT.of t, e2, PO.ret q s r⟩)
    | _ => exact q.elim
  | str z =>
    cases r2 with
    | int i =>
      simp only [ixD] at q
      split at q
      · rename_i hl
        cases e : atI z.cps.toList i with
        | none => rw [e] at q; exact q.elim
        | some c => rw [e] at q; exact .inr (.inr ⟨z, i, c, rfl, rfl, by rw [sizeLine_eq]; exact hl, e, PO.ret q s (.str _)⟩)
      · exact q.elim
    | _ => exact q.elim
  | @ref l a ea =>
    cases r2 with
    | int i =>
      simp only [ixD] at q
      split at q
      · rename_i xs e1
        obtain ⟨vs, h1, rs⟩ := s.lst e1 ea
        cases e : atI xs i with
        | none => rw [e] at q; exact q.elim
        | some d =>
          rw [e] at q
          obtain ⟨w, e2, r⟩ := atI_rep rs e
          exact .inl ⟨a, vs, i, w, rfl, rfl, SqL.of h1, e2, PO.ret q s r⟩
      · exact q.elim
    | _ => exact q.elim
  | @scr a ns hs =>
    cases r2 with
    | int i =>
      simp only [ixD] at q
      cases e : atI ns i with
      | none => rw [e] at q; exact q.elim
      | some n =>
        rw [e] at q
        exact .inl ⟨a, ns.map V.int, i, .int n, rfl, rfl, hs.sq, atI_map V.int e, PO.ret q s (.int _)⟩
    | _ => exact q.elim
  | _ => cases r2 <;> exact q.elim
end
/-- slices -/
def cutD (xs : List D) (lo hi : Option Int) : List D := (xs.drop (HT.sIx xs.length 0 lo)).take (HT.sIx xs.length xs.length hi - HT.sIx xs.length 0 lo)
def slD (x : D) (lo hi : Option Int) (S : Store) : Option (D × Store) := match x with
  | .tup xs => some (.tup (cutD xs lo hi), S)
  | .str z => if z.length ≤ 16777216 then some (.str (cutS z lo hi), S) else none
  | .ref l => match S[l]? with
    | some (.lst xs) => some (.ref S.length, S ++ [.lst (cutD xs lo hi)])
    | _ => none
  | _ => none
theorem cut_rep {K : PySem.W.Frag} {H : Hp} {α : List Addr} {xs : List D} {vs : List V} {lo hi : Option Int} (r : Reps K H α xs vs) : Reps K H α (cutD xs lo hi) (cutV vs lo hi) := by
  unfold cutD cutV
  rw [← r.length]
  exact (r.drop _).take _
theorem cut_whole {xs : List D} {lo hi : Option Int} (h : HT.sIx xs.length 0 lo = 0 ∧ HT.sIx xs.length xs.length hi = xs.length) : cutD xs lo hi = xs := by
  unfold cutD
  rw [h.1, h.2, List.drop_zero, Nat.sub_zero, List.take_length]
/-- an end of a slice -/
abbrev MO := En → Store → Res (Option Int)
def mON : MO := fun _ S => .ok none S
def mOS (a : ME) : MO := fun E S => (a E S).then fun x S1 => match x with
  | .int i => .ok (some i) S1
  | _ => .no
def mSl (a : ME) (lo hi : MO) : ME := fun E S => (a E S).then fun x S1 => (lo E S1).then fun l S2 => (hi E S2).then fun h S3 => Res.of (slD x l h S3)
/-- what is wanted of an end -/
def PQ (K : PySem.W.Frag) (mg : Str → Option Value) (H : Hp) (α : List Addr) (W : Value → Option Addr → Hp → Prop) (Q : Option Int → Hp → Prop) : Res (Option Int) → Prop
  | .ok x S => ∀ α' H', Stp α H α' H' → Sim K H' α' S → Q x H'
  | .exc c fs S => ∀ α' H' cls d, Stp α H α' H' → Sim K H' α' S → ExcV mg K H' α' c fs cls d → W cls d H'
  | .no => False
def iO (K : PySem.W.Frag) (mg : Str → Option Value) (W : WX) (m : MO) : TO := fun σ H Q => ∃ α E S, Sim K H α S ∧ RelE K H α E σ ∧ PQ K mg H α (fun c d H' => W c d σ H') Q (m E S)
abbrev SO (X : Cx) (W : WX) (o : Option Expr) (m : MO) : Prop := L2.PO X o (iO X.K X.mg W m)
theorem PQ.mono {K : PySem.W.Frag} {mg : Str → Option Value} {H H1 : Hp} {α α1 : List Addr} {W W' : Value → Option Addr → Hp → Prop} {Q Q' : Option Int → Hp → Prop} {r : Res (Option Int)} (h : PQ K mg H α W Q r) (p : Stp α H α1 H1) (hQ : ∀ v H', Q v H' → Q' v H') (hW : ∀ c d H', W c d H' → W' c d H') : PQ K mg H1 α1 W' Q' r := by
  cases r with
  | ok x S => exact fun α' H' p' s => hQ x H' (h α' H' (p.trans p') s)
  | exc c fs S => exact fun α' H' cls d p' s e => hW _ _ _ (h α' H' cls d (p.trans p') s e)
  | no => exact h
theorem POimp {X : Cx} {e : Option Expr} {t u : TO} (h : L2.PO X e t) (w : ∀ σ H Q, u σ H Q → t σ H Q) : L2.PO X e u := ⟨fun pins s σ H Q I q => h.run pins s σ H Q I (w σ H Q q)⟩
section
variable {K : PySem.W.Frag} {mg : Str → Option Value} {H : Hp} {α : List Addr} {W : WX} {σ : L2.St} {S : Store} {E : En} {mo : MO}
theorem iO.thenV {Q : VK} {R : Option Int → Hp → Prop} {f : Option Int → Store → Res D} (s : Sim K H α S) (re : RelE K H α E σ) (h : PV K mg H α (fun c d H' => W c d σ H') Q ((mo E S).then f))
    (k : ∀ x S' α' H', Stp α H α' H' → Sim K H' α' S' → RelE K H' α' E σ → PV K mg H' α' (fun c d H' => W c d σ H') Q (f x S') → R x H') : iO K mg W mo σ H R := by
  refine ⟨α, E, S, s, re, ?_⟩
  cases hr : mo E S with
  | ok x S' =>
    rw [hr] at h
    intro α' H' p s'
    exact k x S' α' H' p s' (re.mono (p.grow s) p.pre) (PV.mono h p (fun _ _ q => q) fun _ _ _ q => q)
  | exc c fs S' => rw [hr] at h; exact h
  | no => rw [hr] at h; exact h
end
section
variable {X : Cx} {W : WX} {pos : Pos} {a b c e : Expr} {ma m : ME}
theorem o_none : SO X W none mON := POimp po_none fun σ H Q ⟨α, E, S, s, re, h⟩ => h α H Stp.refl s
theorem o_some (h : SE X W e m) : SO X W (some e) (mOS m) := POimp (po_some h) fun σ H Q ⟨α, E, S, s, re, h⟩ => by
  refine ⟨α, E, S, s, re, ?_⟩
  unfold mOS at h
  cases hr : m E S with
  | ok x S' =>
    rw [hr] at h
    intro α' H' v p s' r
    cases x with
    | int i =>
      cases r
      exact ⟨i, rfl, h α' H' p s'⟩
    | _ => exact h.elim
  | exc c fs S' => rw [hr] at h; exact h
  | no => rw [hr] at h; exact h
theorem e_sl {lo hi : Option Expr} {ml mh : MO} {p2 : Pos} (ha : SE X W a ma) (hl : SO X W lo ml) (hh : SO X W hi mh) : SE X W (.Subscript a (.Slice lo hi none p2) pos) (mSl ma ml mh) :=
  PE.imp (pe_slice (sl_list.or (sl_tupA.or sl_str)) ha hl hh) fun σ H Q ⟨α, E, S, s, re, h⟩ => by
    refine iE.thenV s re h fun x S1 α1 H1 v p1 s1 re1 r1 h1 => ?_
    refine iO.thenV s1 re1 h1 fun l S2 α2 H2 p2 s2 re2 h2 => ?_
    refine iO.thenV s2 re2 h2 fun u S3 α3 H3 p3 s3 re3 h3 => ?_
    have r := (r1.mono (p2.grow s1) p2.pre).mono (p3.grow s2) p3.pre
    have h3 := h3.of
    cases r with
    | @tup a vs ds t rs =>
      simp only [slD] at h3
      refine .inr (.inl ⟨a, vs, rfl, SqT.of t, fun hw => ?_, fun _ p hp => PO.tup s3 (cut_rep rs) h3 hp⟩)
      rw [cut_whole (by rw [rs.length]; exact hw)] at h3
      exact PO.ret h3 s3 (.tup t rs)
    | str z =>
      simp only [slD] at h3
      split at h3
      · rename_i hz
        exact .inr (.inr ⟨z, rfl, by rw [sizeLine_eq]; exact hz, PO.ret h3 s3 (.str _)⟩)
      · exact h3.elim
    | @ref i a ea =>
      simp only [slD] at h3
      split at h3
      · rename_i xs e1
        obtain ⟨vs, q1, rs⟩ := s3.lst e1 ea
        exact .inl ⟨a, vs, rfl, SqL.of q1, fun p hp => PO.lst s3 (cut_rep rs) h3 hp⟩
      · exact h3.elim
    | _ => exact h3.elim
end
end L3

set_option Elab.async false
set_option linter.all false
set_option maxRecDepth 100000
namespace L3
open PySem PySem.Spec PyProof.Rows L2

/-! ### truth -/
def truD : D → Store → Option Bool
  | .non, _ => some false
  | .bl b, _ => some b
  | .int i, _ => some (i != 0)
  | .str y, _ => if y.length ≤ 16777216 then some ((y.length : Int) != 0) else none
  | .tup xs, _ => some !xs.isEmpty
  | .ref l, S => match S[l]? with
    | some (.lst xs) => some !xs.isEmpty
    | some (.dk kvs) => some !kvs.isEmpty
    | _ => none
  | .scr ns, _ => some !ns.isEmpty
theorem Reps.isEmpty {K : PySem.W.Frag} {H : Hp} {α : List Addr} {xs : List D} {vs : List V} (r : Reps K H α xs vs) : xs.isEmpty = vs.isEmpty := by
  cases r <;> rfl
theorem truD_ok {K : PySem.W.Frag} {H : Hp} {α : List Addr} {S : Store} {x : D} {v : V} {b : Bool} (s : Sim K H α S) (r : Rep K H α x v) (h : truD x S = some b) : TruV K v H b := by
  cases r with
  | non => cases h; rfl
  | bl b => cases h; rfl
  | int i => cases h; rfl
  | str y =>
    simp only [truD] at h
    split at h
    · rename_i hl
      cases h
      exact ⟨by rw [sizeLine_eq]; exact hl, rfl⟩
    · cases h
  | @tup a vs ds t rs =>
    cases h
    exact .inr (.inl ⟨vs, SqT.of t, by rw [rs.isEmpty]⟩)
  | @ref i a ea =>
    simp only [truD] at h
    split at h
    · rename_i xs e1
      cases h
      obtain ⟨vs, q1, rs⟩ := s.lst e1 ea
      exact .inl ⟨vs, SqL.of q1, by rw [rs.isEmpty]⟩
    · rename_i xs e1
      cases h
      obtain ⟨ks, q1, rs⟩ := s.obj _ _ _ e1 ea
      refine .inr (.inr ⟨ks, q1, ?_⟩)
      cases rs <;> rfl
    · cases h
  | @scr a ns hs =>
    cases h
    exact .inl ⟨_, hs.sq, by cases ns <;> rfl⟩
def mTru (a : ME) : MT := fun E S => (a E S).then fun x S1 => match truD x S1 with
  | some b => .ok b S1
  | none => .no
def mBl (a : ME) : MT := fun E S => (a E S).then fun x S1 => match x with
  | .bl b => .ok b S1
  | _ => .no
def mNotT (t : MT) : MT := fun E S => (t E S).then fun b S1 => .ok (!b) S1
def mAndT (t u : MT) : MT := fun E S => (t E S).then fun b S1 => if b then u E S1 else .ok false S1
def mOrT (t u : MT) : MT := fun E S => (t E S).then fun b S1 => if b then .ok true S1 else u E S1
def mAnd (a b : ME) : ME := fun E S => (a E S).then fun x S1 => match truD x S1 with
  | some true => b E S1
  | some false => .ok x S1
  | none => .no
def mOr (a b : ME) : ME := fun E S => (a E S).then fun x S1 => match truD x S1 with
  | some true => .ok x S1
  | some false => b E S1
  | none => .no
def mNot (a : ME) : ME := fun E S => (a E S).then fun x S1 => match truD x S1 with
  | some b => .ok (.bl !b) S1
  | none => .no
def mIf (t : MT) (a b : ME) : ME := fun E S => (t E S).then fun c S1 => if c then a E S1 else b E S1
/-- x op y op' z -/
def mChain (f g : F2) (a b c : ME) : ME := fun E S => (a E S).then fun x S1 => (b E S1).then fun y S2 => (Res.of (f x y S2)).then fun r S3 => match r with
  | .bl true => (c E S3).then fun z S4 => Res.of (g y z S4)
  | .bl false => .ok (.bl false) S3
  | _ => .no
section
variable {X : Cx} {W : WX} {pos : Pos} {a b c e : Expr} {es : List Expr} {ma mb mc m : ME} {t u : MT}
theorem t_val (ha : SE X W a ma) (he : ∀ whole, isTrue a X.env whole = (do let v ← whole; standAt a.pos; holding [v] (truthy v)) := by exact fun _ => rfl) : ST X W a (mTru ma) :=
  PT.imp (pt_truth ha he) fun σ H Q ⟨α, E, S, s, re, h⟩ => by
    refine iE.thenB s re h fun x S1 α1 H1 v p1 s1 re1 r1 h1 => ?_
    cases e : truD x S1 with
    | none => rw [e] at h1; exact h1.elim
    | some k => rw [e] at h1; exact ⟨k, truD_ok s1 r1 e, h1.ret s1⟩
theorem bl_of (σ : L2.St) (H : Hp) (Q : Bool → Hp → Prop) (h : iT X.K X.mg W (mBl m) σ H Q) : iE X.K X.mg W m σ H fun x H' => ∃ k, x = .bl k ∧ Q k H' := by
  obtain ⟨α, E, S, s, re, h⟩ := h
  refine iE.thenB s re h fun x S1 α1 H1 v p1 s1 re1 r1 h1 => ?_
  cases x with
  | bl k => cases r1; exact ⟨k, rfl, h1.ret s1⟩
  | _ => exact h1.elim
theorem t_cmp {op : CmpOp} {f : F2} (ho : OpS X (compareOp op) f) (ha : SE X W a ma) (hb : SE X W b mb) (hm : behindInMarks op b = false := by first | exact nomark _ | rfl) : ST X W (.Compare a [op] [b] pos) (mBl (mOp f ma mb)) :=
  let ⟨r, h1, h2⟩ := ho
  PT.imp (pt_cmpR h1 ha hb hm) fun σ H Q h => tOp_of h2 σ H _ (bl_of σ H Q h)
theorem chain_of {f g : F2} {r r' : R2} (h2 : ∀ H α S x y v u Q, Sim X.K H α S → Rep X.K H α x v → Rep X.K H α y u → PO X.K H α Q (f x y S) → r v u H Q) (h4 : ∀ H α S x y v u Q, Sim X.K H α S → Rep X.K H α x v → Rep X.K H α y u → PO X.K H α Q (g x y S) → r' v u H Q)
    (σ : L2.St) (H : Hp) (Q : VK) (h : iE X.K X.mg W (mChain f g ma mb mc) σ H Q) : tChain r r' (iE X.K X.mg W ma) (iE X.K X.mg W mb) (iE X.K X.mg W mc) σ H Q := by
  obtain ⟨α, E, S, s, re, h⟩ := h
  refine iE.thenV s re h fun x S1 α1 H1 v p1 s1 re1 r1 q1 => ?_
  refine iE.thenV s1 re1 q1 fun y S2 α2 H2 u p2 s2 re2 r2 q2 => ?_
  refine h2 H2 α2 S2 x y v u _ s2 (r1.mono (p2.grow s1) p2.pre) r2 ?_
  cases e : f x y S2 with
  | none => rw [e] at q2; exact q2.elim
  | some z =>
    obtain ⟨d, S3⟩ := z
    rw [e] at q2
    intro α3 H3 w p3 s3 r3
    have q3 := PV.mono q2 p3 (fun _ _ q => q) fun _ _ _ q => q
    cases r3 with
    | bl k =>
      cases k with
      | false => exact ⟨false, rfl, ite_ff (q3.ret s3 (.bl _))⟩
      | true =>
        refine ⟨true, rfl, ite_tt ?_⟩
        refine iE.thenV s3 (re2.mono (p3.grow s2) p3.pre) q3 fun z S4 α4 H4 w p4 s4 re4 r4 q4 => ?_
        exact h4 H4 α4 S4 y z u w Q s4 ((r2.mono (p3.grow s2) p3.pre).mono (p4.grow s3) p4.pre) r4 q4.of
    | _ => exact q3.elim
theorem e_chain {op op' : CmpOp} {f g : F2} (ho : OpS X (compareOp op) f) (ho' : OpS X (compareOp op') g) (ha : SE X W a ma) (hb : SE X W b mb) (hc : SE X W c mc) (hm : lastMarks [op, op'] [b, c] = false := by with_unfolding_all rfl) :
    SE X W (.Compare a [op, op'] [b, c] pos) (mChain f g ma mb mc) :=
  let ⟨r, h1, h2⟩ := ho
  let ⟨r', h3, h4⟩ := ho'
  PE.imp (pe_chain h1 h3 ha hb hc hm) fun σ H Q h => chain_of h2 h4 σ H Q h
theorem t_chain {op op' : CmpOp} {f g : F2} (ho : OpS X (compareOp op) f) (ho' : OpS X (compareOp op') g) (ha : SE X W a ma) (hb : SE X W b mb) (hc : SE X W c mc) (hm : lastMarks [op, op'] [b, c] = false := by with_unfolding_all rfl) :
    ST X W (.Compare a [op, op'] [b, c] pos) (mBl (mChain f g ma mb mc)) :=
  let ⟨r, h1, h2⟩ := ho
  let ⟨r', h3, h4⟩ := ho'
  PT.imp (pt_chain h1 h3 ha hb hc hm) fun σ H Q h => chain_of h2 h4 σ H _ (bl_of σ H Q h)
theorem t_not (h : ST X W a t) : ST X W (.UnaryOp .Not a pos) (mNotT t) := PT.imp (pt_not h) fun σ H Q ⟨α, E, S, s, re, h⟩ =>
  iT.thenB s re h fun x S1 α1 H1 p1 s1 re1 h1 => h1.ret s1
theorem w_and1 (ha : ST X W a t) : SWh X W (.BoolOp .And [a] pos) t := pw_and1 ha
theorem w_or1 (ha : ST X W a t) : SWh X W (.BoolOp .Or [a] pos) t := pw_or1 ha
theorem w_and {rest : List Expr} (ha : ST X W a t) (hb : SWh X W (.BoolOp .And (b :: rest) pos) u) : SWh X W (.BoolOp .And (a :: b :: rest) pos) (mAndT t u) :=
  PW.imp (pw_and ha hb) fun σ H Q ⟨α, E, S, s, re, h⟩ => iT.thenB s re h fun x S1 α1 H1 p1 s1 re1 h1 => by
    cases x with
    | true => exact ite_tt ⟨α1, E, S1, s1, re1, h1⟩
    | false => exact ite_ff (h1.ret s1)
theorem w_or {rest : List Expr} (ha : ST X W a t) (hb : SWh X W (.BoolOp .Or (b :: rest) pos) u) : SWh X W (.BoolOp .Or (a :: b :: rest) pos) (mOrT t u) :=
  PW.imp (pw_or ha hb) fun σ H Q ⟨α, E, S, s, re, h⟩ => iT.thenB s re h fun x S1 α1 H1 p1 s1 re1 h1 => by
    cases x with
    | true => exact ite_tt (h1.ret s1)
    | false => exact ite_ff ⟨α1, E, S1, s1, re1, h1⟩
theorem t_w (h : SWh X W a t) : ST X W a t := PW.pt h
theorem e_one {op : BoolOp} (h : SE X W a ma) : SE X W (.BoolOp op [a] pos) ma := pe_one h
theorem e_and {rest : List Expr} (ha : SE X W a ma) (hb : SE X W (.BoolOp .And (b :: rest) pos) mb) : SE X W (.BoolOp .And (a :: b :: rest) pos) (mAnd ma mb) :=
  PE.imp (pe_andT ha hb) fun σ H Q ⟨α, E, S, s, re, h⟩ => iE.thenV s re h fun x S1 α1 H1 v p1 s1 re1 r1 h1 => by
    cases e : truD x S1 with
    | none => rw [e] at h1; exact h1.elim
    | some k =>
      rw [e] at h1
      refine ⟨k, truD_ok s1 r1 e, ?_⟩
      cases k with
      | true => exact ite_tt ⟨α1, E, S1, s1, re1, h1⟩
      | false => exact ite_ff (h1.ret s1 r1)
theorem e_or {rest : List Expr} (ha : SE X W a ma) (hb : SE X W (.BoolOp .Or (b :: rest) pos) mb) : SE X W (.BoolOp .Or (a :: b :: rest) pos) (mOr ma mb) :=
  PE.imp (pe_orT ha hb) fun σ H Q ⟨α, E, S, s, re, h⟩ => iE.thenV s re h fun x S1 α1 H1 v p1 s1 re1 r1 h1 => by
    cases e : truD x S1 with
    | none => rw [e] at h1; exact h1.elim
    | some k =>
      rw [e] at h1
      refine ⟨k, truD_ok s1 r1 e, ?_⟩
      cases k with
      | true => exact ite_tt (h1.ret s1 r1)
      | false => exact ite_ff ⟨α1, E, S1, s1, re1, h1⟩
theorem e_not (ha : SE X W a ma) : SE X W (.UnaryOp .Not a pos) (mNot ma) :=
  PE.imp (pe_notT ha) fun σ H Q ⟨α, E, S, s, re, h⟩ => iE.thenV s re h fun x S1 α1 H1 v p1 s1 re1 r1 h1 => by
    cases e : truD x S1 with
    | none => rw [e] at h1; exact h1.elim
    | some k => rw [e] at h1; exact ⟨k, truD_ok s1 r1 e, h1.ret s1 (.bl _)⟩
theorem e_if (hc : ST X W c t) (ha : SE X W a ma) (hb : SE X W b mb) : SE X W (.IfExp c a b pos) (mIf t ma mb) :=
  PE.imp (pe_ifExp hc ha hb) fun σ H Q ⟨α, E, S, s, re, h⟩ => iT.thenV s re h fun x S1 α1 H1 p1 s1 re1 h1 => by
    cases x with
    | true => exact ite_tt ⟨α1, E, S1, s1, re1, h1⟩
    | false => exact ite_ff ⟨α1, E, S1, s1, re1, h1⟩
end

/-! ### statements -/
def sNil : MS := fun E S => .nx E S
def sSeq (a b : MS) : MS := fun E S => (a E S).thenS b
def sRet (a : ME) : MS := fun E S => (a E S).thenS E fun x S1 => .ret x S1
def sRetN : MS := fun _ S => .ret .non S
def sExp (a : ME) : MS := fun E S => (a E S).thenS E fun _ S1 => .nx E S1
def sSet (i : Nat) (a : ME) : MS := fun E S => (a E S).thenS E fun x S1 => .nx (E.set i (some x)) S1
def sIf (t : MT) (a b : MS) : MS := fun E S => (t E S).thenS E fun c S1 => if c then a E S1 else b E S1
def sBrk : MS := fun E S => .bk E S
def sCont : MS := fun E S => .ct E S
def sNo : MS := fun _ _ => .no
section
variable {K : PySem.W.Frag} {mg : Str → Option Value} {H : Hp} {α : List Addr} {W : WX} {S : Store} {E : En} {σ : L2.St} {DD : Ends}
theorem PR.nx' (h : PR K mg H α W DD (.nx E S)) (s : Sim K H α S) (re : RelE K H α E σ) : DD.nx σ H := h α H σ Stp.refl s re
theorem PR.ct' (h : PR K mg H α W DD (.ct E S)) (s : Sim K H α S) (re : RelE K H α E σ) : DD.ct σ H := h α H σ Stp.refl s re
theorem PR.bk' (h : PR K mg H α W DD (.bk E S)) (s : Sim K H α S) (re : RelE K H α E σ) : DD.bk σ H := h α H σ Stp.refl s re
theorem PR.ret' {x : D} {v : V} (h : PR K mg H α W DD (.ret x S)) (s : Sim K H α S) (r : Rep K H α x v) : DD.rt v H := h α H v Stp.refl s r
end
section
variable {X : Cx} {W : WX} {pos : Pos} {a b c e : Expr} {ma mb mc m : ME} {t u : MT} {st : Stmt} {rest : List Stmt} {mst mr : MS}
theorem ss_nil : SSs X W [] sNil := PSs.imp pss_nil fun DD σ H ⟨α, E, S, s, re, h⟩ => h.nx' s re
theorem ss_cons (h1 : SS X W st mst) (h2 : SSs X W rest mr) : SSs X W (st :: rest) (sSeq mst mr) := PSs.imp (pss_cons h1 h2) fun DD σ H ⟨α, E, S, s, re, h⟩ => by
  refine ⟨α, E, S, s, re, ?_⟩
  unfold sSeq SR.thenS at h
  cases hr : mst E S with
  | nx E' S' => rw [hr] at h; exact fun α' H' σ' p s' re' => ⟨α', E', S', s', re', PR.mono h p (fun _ _ q => q) (fun _ _ q => q) (fun _ _ q => q) (fun _ _ q => q) fun _ _ _ _ q => q⟩
  | ret d S' => rw [hr] at h; exact h
  | bk E' S' => rw [hr] at h; exact h
  | ct E' S' => rw [hr] at h; exact h
  | exc c fs E' S' => rw [hr] at h; exact h
  | no => rw [hr] at h; exact h
theorem ss_one (h1 : SS X W st mst) : SSs X W [st] mst := pss_one h1
theorem s_ret (h : SE X W e m) : SS X W (.Return (some e) pos) (sRet m) := PS.imp (ps_ret h) fun DD σ H ⟨α, E, S, s, re, h⟩ => iE.thenR s re h fun x S1 α1 H1 v p1 s1 re1 r1 h1 => h1.ret' s1 r1
theorem s_retN : SS X W (.Return none pos) sRetN := PS.imp ps_retN fun DD σ H ⟨α, E, S, s, re, h⟩ => h.ret' s .non
theorem s_exp (h : SE X W e m) (hs : swapsWith e none pos.line X.env = pure false := by rfl) : SS X W (.Expr e pos) (sExp m) := PS.imp (ps_expr h hs) fun DD σ H ⟨α, E, S, s, re, h⟩ => iE.thenR s re h fun x S1 α1 H1 v p1 s1 re1 r1 h1 => h1.nx' s1 re1
theorem s_pass : SS X W (.Pass pos) sNil := PS.imp ps_pass fun DD σ H ⟨α, E, S, s, re, h⟩ => h.nx' s re
theorem s_brk : SS X W (.Break pos) sBrk := PS.imp ps_break fun DD σ H ⟨α, E, S, s, re, h⟩ => h.bk' s re
theorem s_cont : SS X W (.Continue pos) sCont := PS.imp ps_continue fun DD σ H ⟨α, E, S, s, re, h⟩ => h.ct' s re
theorem s_no : SS X W st sNo := PS.imp ps_never fun DD σ H ⟨α, E, S, s, re, h⟩ => h
theorem s_set {x : Str} {pos' : Pos} (i : Nat) (hN : X.N.Nodup) (h : SE X W e m) (hi : X.N[i]? = some x := by rfl) (hx : Loc X.env.scope x := by first | exact Or.inl rfl | exact Or.inr rfl) (hs : swapsWith e (some (.Name x pos')) pos.line X.env = pure false := by rfl) (hf : X.fn x = true ∨ X.env.scope.names.lookup x = some .local := by first | exact .inl rfl | exact .inr rfl | assumption) :
    SS X W (.Assign [.Name x pos'] e pos) (sSet i m) := PS.imp (ps_set hN hi hx h hs hf) fun DD σ H ⟨α, E, S, s, re, h⟩ => iE.thenR s re h fun x S1 α1 H1 v p1 s1 re1 r1 h1 => h1.nx' s1 (re1.set r1)
theorem s_if {xs ys : List Stmt} {m1 m2 : MS} (hc : ST X W c t) (ha : SSs X W xs m1) (hb : SSs X W ys m2) : SS X W (.If c xs ys pos) (sIf t m1 m2) := PS.imp (ps_if hc ha hb) fun DD σ H ⟨α, E, S, s, re, h⟩ =>
  iT.thenR s re h fun x S1 α1 H1 p1 s1 re1 h1 => by
    cases x with
    | true => exact ite_tt ⟨α1, E, S1, s1, re1, h1⟩
    | false => exact ite_ff ⟨α1, E, S1, s1, re1, h1⟩
/-- name op= e: op by its values -/
def sAug (i : Nat) (f : F2) (a : ME) : MS := fun E S => match E[i]? with
  | some (some x) => (a E S).thenS E fun y S1 => (Res.of (f x y S1)).thenS E fun z S2 => .nx (E.set i (some z)) S2
  | _ => .no
def addI : F2
  | .int i, .int j, S => some (.int (i + j), S)
  | _, _, _ => none
def IpS (X : Cx) (op : Operator) (f : F2) : Prop := ∃ r, PIp X op r ∧ ∀ H α S x y v u Q, Sim X.K H α S → Rep X.K H α x v → Rep X.K H α y u → PO X.K H α Q (f x y S) → r v u H Q
theorem s_aug {x : Str} {pos' : Pos} {op : Operator} {f : F2} (i : Nat) (hN : X.N.Nodup) (ho : IpS X op f) (h : SE X W e m) (hi : X.N[i]? = some x := by rfl) (hx : Loc X.env.scope x := by first | exact Or.inl rfl | exact Or.inr rfl) (hf : X.fn x = true ∨ X.env.scope.names.lookup x = some .local := by first | exact .inl rfl | exact .inr rfl | assumption) :
    SS X W (.AugAssign (.Name x pos') op e pos) (sAug i f m) :=
  let ⟨r, h1, h2⟩ := ho
  PS.imp (ps_aug hN hi hx h h1 hf) fun DD σ H ⟨α, E, S, s, re, h⟩ => by
    unfold sAug at h
    cases ee : E[i]? with
    | none => rw [ee] at h; exact h.elim
    | some o =>
      cases o with
      | none => rw [ee] at h; exact h.elim
      | some d =>
        rw [ee] at h
        obtain ⟨v, ev, rv⟩ := re.at_ i d ee
        refine ⟨v, ev, iE.thenR s re h fun y S1 α1 H1 w p1 s1 re1 r1 q1 => ?_⟩
        refine h2 H1 α1 S1 d y v w _ s1 (rv.mono (p1.grow s) p1.pre) r1 ?_
        cases e : f d y S1 with
        | none => rw [e] at q1; exact q1.elim
        | some z =>
          obtain ⟨z, S2⟩ := z
          rw [e] at q1
          intro α2 H2 v2 p2 s2 r2
          exact q1 α2 H2 _ p2 s2 ((re1.mono (p2.grow s1) p2.pre).set r2)
theorem ip_add' : IpS X .Add addI := by
  refine ⟨_, ip_add, fun H α S x y v u Q s r1 r2 q => ?_⟩
  cases r1 with
  | int i =>
    cases r2 with
    | int j => exact ⟨i, j, rfl, rfl, PO.ret q s (.int _)⟩
    | _ => exact q.elim
  | _ => exact q.elim
theorem ip_sub' : IpS X .Sub subD := by
  refine ⟨_, ip_sub, fun H α S x y v u Q s r1 r2 q => ?_⟩
  cases r1 with
  | int i =>
    cases r2 with
    | int j => exact ⟨i, j, rfl, rfl, PO.ret q s (.int _)⟩
    | _ => exact q.elim
  | _ => exact q.elim

/-! ### while -/
def wLoop (t : MT) (b : MS) : Nat → MS
  | 0 => fun _ _ => .no
  | n + 1 => fun E S => (t E S).thenS E fun c S1 => if c then (match b E S1 with
    | .nx E' S' => wLoop t b n E' S'
    | .ct E' S' => wLoop t b n E' S'
    | .bk E' S' => .nx E' S'
    | .ret d S' => .ret d S'
    | .exc c fs E' S' => .exc c fs E' S'
    | .no => .no) else .nx E S1
theorem s_while {xs : List Stmt} {mb : MS} (n : Nat) (hp : PassesOwn (model X.prog X.w) X.A X.env X.xe) (hc : ST X W c t) (hb : SSs X W xs mb) : SS X W (.While c xs [] pos) (wLoop t mb n) := PS.imp (ps_while hp hc hb) fun DD σ H ⟨α, E, S, s, re, h⟩ => by
  refine ⟨fun m σ H => ∃ α E S, Sim X.K H α S ∧ RelE X.K H α E σ ∧ PR X.K X.mg H α W DD (wLoop t mb m E S), ⟨n, α, E, S, s, re, h⟩, ?_⟩
  rintro m σ H ⟨α, E, S, s, re, h⟩
  cases m with
  | zero => exact h.elim
  | succ m =>
    refine iT.thenR s re h fun x S1 α1 H1 p1 s1 re1 h1 => ?_
    cases x with
    | false => exact ite_ff (PR.nx' h1 s1 re1)
    | true =>
      refine ite_tt ⟨fun σ' H' => ∃ α E S, Sim X.K H' α S ∧ RelE X.K H' α E σ' ∧ PR X.K X.mg H' α W DD (wLoop t mb m E S), fun σ' H' q => ⟨m, Nat.lt_succ_self m, q⟩, α1, E, S1, s1, re1, ?_⟩
      have h1 : PR X.K X.mg H1 α1 W DD (match mb E S1 with
        | .nx E' S' => wLoop t mb m E' S'
        | .ct E' S' => wLoop t mb m E' S'
        | .bk E' S' => .nx E' S'
        | .ret d S' => .ret d S'
        | .exc c fs E' S' => .exc c fs E' S'
        | .no => .no) := h1
      cases hr : mb E S1 with
      | nx E' S' => rw [hr] at h1; exact fun α' H' σ' p s' re' => ⟨α', E', S', s', re', PR.mono h1 p (fun _ _ q => q) (fun _ _ q => q) (fun _ _ q => q) (fun _ _ q => q) fun _ _ _ _ q => q⟩
      | ct E' S' => rw [hr] at h1; exact fun α' H' σ' p s' re' => ⟨α', E', S', s', re', PR.mono h1 p (fun _ _ q => q) (fun _ _ q => q) (fun _ _ q => q) (fun _ _ q => q) fun _ _ _ _ q => q⟩
      | bk E' S' => rw [hr] at h1; exact h1
      | ret d S' => rw [hr] at h1; exact h1
      | exc c fs E' S' => rw [hr] at h1; exact h1
      | no => rw [hr] at h1; exact h1
end
end L3

set_option Elab.async false
set_option linter.all false
set_option maxRecDepth 100000
namespace L3
open PySem PySem.Spec PyProof.Rows L2

/-! ### targets -/
abbrev MG := D → En → Store → Option (En × Store)
def PGt (K : PySem.W.Frag) (vs : List Nat) (σ : L2.St) (H : Hp) (α : List Addr) (Q : L2.St → Hp → Prop) : Option (En × Store) → Prop
  | some (E, S) => ∀ α' H' σ', Stp α H α' H' → Sim K H' α' S → RelE K H' α' E σ' → wipe σ' vs = wipe σ vs → Q σ' H'
  | none => False
def iG (K : PySem.W.Frag) (vs : List Nat) (m : MG) : TG := fun v σ H Q => ∃ α E S d, Sim K H α S ∧ RelE K H α E σ ∧ Rep K H α d v ∧ PGt K vs σ H α Q (m d E S)
def iGs (K : PySem.W.Frag) (sl : List Nat) (m : List D → En → Store → Option (En × Store)) : TGs := fun vs σ H Q => ∃ α E S ds, Sim K H α S ∧ RelE K H α E σ ∧ Reps K H α ds vs ∧ PGt K sl σ H α Q (m ds E S)
abbrev SG (X : Cx) (vs : List Nat) (tg : Expr) (m : MG) : Prop := PG X tg (iG X.K vs m)
abbrev SGs (X : Cx) (vs : List Nat) (tgs : List Expr) (m : List D → En → Store → Option (En × Store)) : Prop := PGs X tgs (iGs X.K vs m)
theorem wipe_get {σ : L2.St} : ∀ {vs : List Nat} {j : Nat}, (wipe σ vs)[j]? = if j ∈ vs ∧ j < σ.length then some none else σ[j]?
  | [], j => by simp [wipe]
  | v :: vs, j => by
    unfold wipe
    by_cases h : v = j
    · subst h
      by_cases hl : v < σ.length
      · rw [List.getElem?_set_self (by rw [wipe_length]; exact hl)]
        simp [hl]
      · rw [List.getElem?_eq_none (by rw [List.length_set, wipe_length]; omega)]
        simp [hl]
    · rw [List.getElem?_set_ne h, wipe_get]
      simp [Ne.symm h]
theorem wipe_set {σ : L2.St} {vs : List Nat} {i : Nat} {x : Option V} (h : i ∈ vs) : wipe (σ.set i x) vs = wipe σ vs := by
  apply List.ext_getElem?
  intro j
  rw [wipe_get, wipe_get, List.length_set]
  by_cases hj : j ∈ vs ∧ j < σ.length
  · rw [if_pos hj, if_pos hj]
  · rw [if_neg hj, if_neg hj]
    by_cases hij : i = j
    · subst hij
      have : ¬ i < σ.length := fun z => hj ⟨h, z⟩
      rw [List.getElem?_eq_none (by simp; omega), List.getElem?_eq_none (by omega)]
    · rw [List.getElem?_set_ne hij]
theorem PGimp {X : Cx} {e : Expr} {t u : TG} (h : PG X e t) (w : ∀ v σ H Q, u v σ H Q → t v σ H Q) : PG X e u := ⟨fun pins s σ H v x Q I r q => h.run pins s σ H v x Q I r (w v σ H Q q)⟩
theorem PGsimp {X : Cx} {e : List Expr} {t u : TGs} (h : PGs X e t) (w : ∀ v σ H Q, u v σ H Q → t v σ H Q) : PGs X e u := ⟨fun pins s σ H v x Q I r q => h.run pins s σ H v x Q I r (w v σ H Q q)⟩
def gN (i : Nat) : MG := fun d E S => some (E.set i (some d), S)
def gsNil : List D → En → Store → Option (En × Store)
  | [], E, S => some (E, S)
  | _, _, _ => none
def gsCons (g : MG) (r : List D → En → Store → Option (En × Store)) : List D → En → Store → Option (En × Store)
  | d :: ds, E, S => match g d E S with
    | some (E', S') => r ds E' S'
    | none => none
  | _, _, _ => none
def gT (n : Nat) (r : List D → En → Store → Option (En × Store)) : MG := fun d E S => match d with
  | .tup ds => if ds.length = n then r ds E S else none
  | _ => none
section
variable {K : PySem.W.Frag} {H : Hp} {α : List Addr} {S : Store} {E : En} {σ : L2.St}
theorem PGt.ret {vs : List Nat} {σ0 : L2.St} {Q : L2.St → Hp → Prop} (h : PGt K vs σ0 H α Q (some (E, S))) (s : Sim K H α S) (re : RelE K H α E σ) (w : wipe σ vs = wipe σ0 vs) : Q σ H := h α H σ Stp.refl s re w
theorem PGt.mono {vs : List Nat} {σ0 σ1 : L2.St} {Q Q' : L2.St → Hp → Prop} {H1 : Hp} {α1 : List Addr} {r : Option (En × Store)} (h : PGt K vs σ0 H α Q r) (p : Stp α H α1 H1) (w : wipe σ1 vs = wipe σ0 vs) (hQ : ∀ σ H', Q σ H' → Q' σ H') : PGt K vs σ1 H1 α1 Q' r := by
  cases r with
  | none => exact h
  | some z => exact fun α' H' σ' p' s re w' => hQ _ _ (h α' H' σ' (p.trans p') s re (w'.trans w))
end
section
variable {X : Cx} {W : WX} {pos : Pos} {a b c e : Expr} {ma mb mc m : ME} {g : MG} {gs : List D → En → Store → Option (En × Store)} {sl : List Nat}
theorem g_name {x : Str} (i : Nat) (hN : X.N.Nodup) (hsl : i ∈ sl := by first | exact List.mem_cons_self | decide) (hi : X.N[i]? = some x := by rfl) (hx : Loc X.env.scope x := by first | exact Or.inl rfl | exact Or.inr rfl) (hf : X.fn x = true ∨ X.env.scope.names.lookup x = some .local := by first | exact .inl rfl | exact .inr rfl | assumption) : SG X sl (.Name x pos) (gN i) :=
  PGimp (pg_name hN hi hx hf) fun v σ H Q ⟨α, E, S, d, s, re, r, h⟩ => h.ret s (re.set r) (wipe_set hsl)
theorem gs_nil : SGs X sl [] gsNil := PGsimp pgs_nil fun v σ H Q ⟨α, E, S, d, s, re, r, h⟩ => by
  cases r with
  | nil => exact ⟨rfl, h.ret s re rfl⟩
  | cons _ _ => exact h.elim
theorem gs_cons {es : List Expr} (h1 : SG X sl e g) (h2 : SGs X sl es gs) (hs : (assignEach (e :: es) X.env).map (·.2) = assign e X.env :: (assignEach es X.env).map (·.2) := by rfl) : SGs X sl (e :: es) (gsCons g gs) :=
  PGsimp (pgs_cons h1 h2 hs) fun v σ H Q ⟨α, E, S, d, s, re, r, h⟩ => by
    cases r with
    | nil => exact h.elim
    | @cons d v ds vs r rs =>
      refine ⟨v, vs, rfl, α, E, S, d, s, re, r, ?_⟩
      simp only [gsCons] at h
      cases e : g d E S with
      | none => rw [e] at h; exact h.elim
      | some z =>
        rw [e] at h
        exact fun α' H' σ' p s' re' w => ⟨α', _, _, ds, s', re', rs.mono (p.grow s) p.pre, h.mono p w fun _ _ q => q⟩
theorem g_tup {es : List Expr} {k n : Nat} (hc : X.calm = true) (h : SGs X sl es gs) (hn : (assignEach es X.env).length = n := by rfl) (hst : (assignEach es X.env).findIdx? (·.1) = none := by rfl) : SG X sl (.Tuple es k pos) (gT n gs) :=
  PGimp (pg_tup hc h hn hst) fun v σ H Q ⟨α, E, S, d, s, re, r, h⟩ => by
    cases r with
    | @tup a vs ds t rs =>
      simp only [gT] at h
      split at h
      · rename_i hl
        exact ⟨a, vs, rfl, SqT.of t, by rw [← rs.length]; exact hl, α, E, S, ds, s, re, rs, h⟩
      · exact h.elim
    | _ => exact h.elim
/-- target = value -/
def sAsg (g : MG) (a : ME) : MS := fun E S => (a E S).thenS E fun x S1 => match g x E S1 with
  | some (E', S') => .nx E' S'
  | none => .no
theorem s_asg {tg : Expr} (he : SE X W e m) (hg : SG X sl tg g) (hs : swapsWithSole [tg] e pos.line X.env = pure false := by rfl) (hw : swappedStores [tg] e X.env = pure none := by rfl)
    (h1 : (assignEach [tg] X.env).map (·.2) = [assign tg X.env] := by rfl) : SS X W (.Assign [tg] e pos) (sAsg g m) := PS.imp (ps_asg he hg hs hw h1) fun DD σ H ⟨α, E, S, s, re, h⟩ => by
  refine iE.thenR s re h fun x S1 α1 H1 v p1 s1 re1 r1 h1 => ⟨α1, E, S1, x, s1, re1, r1, ?_⟩
  cases e : g x E S1 with
  | none => rw [e] at h1; exact h1.elim
  | some z =>
    rw [e] at h1
    exact fun α' H' σ' p s' re' _ => PR.nx' (PR.mono h1 p (fun _ _ q => q) (fun _ _ q => q) (fun _ _ q => q) (fun _ _ q => q) fun _ _ _ _ q => q) s' re'
end

/-! ### what a loop walks -/
inductive Wk where
  | lst (l : Nat)
  | tup (xs : List D)
  | rng (lo : Int) (n : Nat)
  | rngc (lo c : Int) (n : Nat)
  | str (x : Str)
  | scr (ns : List Int)
/-- none: stuck; some none: the end -/
def Wk.at (i : Nat) : Wk → Store → Option (Option D)
  | .lst l, S => match S[l]? with
    | some (.lst xs) => some xs[i]?
    | _ => none
  | .scr ns, _ => some (ns[i]?.map .int)
  | .tup xs, _ => some xs[i]?
  | .rng lo n, _ => some (if i < n then some (.int (lo + i)) else none)
  | .rngc lo c n, _ => some (if i < n then some (.int (lo + (i : Nat) * c)) else none)
  | .str x, _ => some (x.cps[i]?.map fun c => .str ⟨#[c]⟩)
/-- HandS's iterator does as told -/
structure ItS (K : PySem.W.Frag) (α0 : List Addr) (H0 : Hp) (J : It) (I : Wk) : Prop where
  go : ∀ i H α S d, Stp α0 H0 α H → Sim K H α S → I.at i S = some (some d) → J.go i H ∧ ∀ v H', J.yld i H v H' → ∃ α', Stp α H α' H' ∧ Sim K H' α' S ∧ Rep K H' α' d v
  stop : ∀ i H α S, Stp α0 H0 α H → Sim K H α S → I.at i S = some none → J.stop i H
abbrev MI := En → Store → Res Wk
def PIr (K : PySem.W.Frag) (mg : Str → Option Value) (H : Hp) (α : List Addr) (W : Value → Option Addr → Hp → Prop) (Q : It → Hp → Prop) : Res Wk → Prop
  | .ok x S => ∀ α' H' J, Stp α H α' H' → Sim K H' α' S → ItS K α' H' J x → Q J H'
  | .exc c fs S => ∀ α' H' cls d, Stp α H α' H' → Sim K H' α' S → ExcV mg K H' α' c fs cls d → W cls d H'
  | .no => False
def iI (K : PySem.W.Frag) (mg : Str → Option Value) (W : WX) (m : MI) : TI := fun σ H Q => ∃ α E S, Sim K H α S ∧ RelE K H α E σ ∧ PIr K mg H α (fun c d H' => W c d σ H') Q (m E S)
abbrev SI (X : Cx) (W : WX) (tg e : Expr) (m : MI) : Prop := PI X tg e (iI X.K X.mg W m)
theorem PIimp {X : Cx} {tg e : Expr} {t u : TI} (h : PI X tg e t) (w : ∀ σ H Q, u σ H Q → t σ H Q) : PI X tg e u := ⟨fun pins s σ H Q I q => h.run pins s σ H Q I (w σ H Q q)⟩
section
variable {K : PySem.W.Frag} {mg : Str → Option Value} {H H1 : Hp} {α α1 : List Addr} {W : WX} {σ : L2.St} {S : Store} {E : En} {m : ME} {ma : MA}
theorem PIr.mono {W W' : Value → Option Addr → Hp → Prop} {Q Q' : It → Hp → Prop} {r : Res Wk} (h : PIr K mg H α W Q r) (p : Stp α H α1 H1) (hQ : ∀ v H', Q v H' → Q' v H') (hW : ∀ c d H', W c d H' → W' c d H') : PIr K mg H1 α1 W' Q' r := by
  cases r with
  | ok x S => exact fun α' H' v p' s r => hQ v H' (h α' H' v (p.trans p') s r)
  | exc c fs S => exact fun α' H' cls d p' s e => hW _ _ _ (h α' H' cls d (p.trans p') s e)
  | no => exact h
theorem iE.thenI {Q : It → Hp → Prop} {R : VK} {f : D → Store → Res Wk} (s : Sim K H α S) (re : RelE K H α E σ) (h : PIr K mg H α (fun c d H' => W c d σ H') Q ((m E S).then f))
    (k : ∀ x S' α' H' v, Stp α H α' H' → Sim K H' α' S' → RelE K H' α' E σ → Rep K H' α' x v → PIr K mg H' α' (fun c d H' => W c d σ H') Q (f x S') → R v H') : iE K mg W m σ H R :=
  iE.bind (PP := fun H α r => PIr K mg H α (fun c d H' => W c d σ H') Q r) s re (fun c fs S' q => q) (fun q => q) (fun α' H' r p q => q.mono p (fun _ _ x => x) fun _ _ _ x => x) h k
theorem iA.thenI {Q : It → Hp → Prop} {R : List V → Hp → Prop} {f : List D → Store → Res Wk} (s : Sim K H α S) (re : RelE K H α E σ) (h : PIr K mg H α (fun c d H' => W c d σ H') Q ((ma E S).then f))
    (k : ∀ x S' α' H' v, Stp α H α' H' → Sim K H' α' S' → RelE K H' α' E σ → Reps K H' α' x v → PIr K mg H' α' (fun c d H' => W c d σ H') Q (f x S') → R v H') : iA K mg W ma σ H R := by
  refine ⟨α, E, S, s, re, ?_⟩
  cases hr : ma E S with
  | ok x S' =>
    rw [hr] at h
    intro α' H' v p s' r
    exact k x S' α' H' v p s' (re.mono (p.grow s) p.pre) r (PIr.mono h p (fun _ _ q => q) fun _ _ _ q => q)
  | exc c fs S' => rw [hr] at h; exact h
  | no => rw [hr] at h; exact h
theorem PIr.ret {x : Wk} {J : It} {W' : Value → Option Addr → Hp → Prop} {Q : It → Hp → Prop} (h : PIr K mg H α W' Q (.ok x S)) (s : Sim K H α S) (r : ItS K α H J x) : Q J H := h α H J Stp.refl s r
/-- a list of the store at an address, later -/
theorem sq_later {l : Nat} {a : Addr} {xs : List D} (ea : α[l]? = some a) (p : Stp α H α1 H1) (s1 : Sim K H1 α1 S) (h : S[l]? = some (.lst xs)) : ∃ vs, SqL K H1 a vs ∧ Reps K H1 α1 xs vs := by
  obtain ⟨vs, q1, rs⟩ := s1.lst h (p.pre l a ea)
  exact ⟨vs, SqL.of q1, rs⟩
theorem its_lst {l : Nat} {a : Addr} (ea : α[l]? = some a) : ItS K α H (Itl K a) (.lst l) where
  go := fun i H1 α1 S d p s1 h => by
    simp only [Wk.at] at h
    split at h
    · rename_i xs e
      obtain ⟨vs, q, rs⟩ := sq_later ea p s1 e
      obtain ⟨v, e, r⟩ := rs.get (Option.some.inj h)
      refine ⟨⟨vs, v, q, e⟩, fun w H' y => ?_⟩
      obtain ⟨e1, y⟩ := y
      subst e1
      have := y vs q
      rw [e] at this; cases this
      exact ⟨α1, Stp.refl, s1, r⟩
    · cases h
  stop := fun i H1 α1 S p s1 h => by
    simp only [Wk.at] at h
    split at h
    · rename_i xs e
      obtain ⟨vs, q, rs⟩ := sq_later ea p s1 e
      exact ⟨vs, q, by rw [← rs.length]; exact List.getElem?_eq_none_iff.mp (Option.some.inj h)⟩
    · cases h
theorem its_scr {a : Addr} {ns : List Int} (s : Sim K H α S) (hs : ScrAt K H a ns) : ItS K α H (Itl K a) (.scr ns) where
  go := fun i H1 α1 S d p s1 h => by
    have q := ((p.grow s).scr hs).sq
    have h := Option.some.inj h
    rw [Option.map_eq_some_iff] at h
    obtain ⟨n, e, rfl⟩ := h
    have e : (ns.map V.int)[i]? = some (V.int n) := by rw [List.getElem?_map, e]; rfl
    refine ⟨⟨_, _, q, e⟩, fun w H' y => ?_⟩
    obtain ⟨e1, y⟩ := y
    subst e1
    have := y _ q
    rw [e] at this; cases this
    exact ⟨α1, Stp.refl, s1, .int _⟩
  stop := fun i H1 α1 S p s1 h => by
    have q := ((p.grow s).scr hs).sq
    have h := Option.some.inj h
    rw [Option.map_eq_none_iff] at h
    exact ⟨_, q, by rw [List.length_map]; exact List.getElem?_eq_none_iff.mp h⟩
theorem its_tup {a : Addr} {xs : List D} {vs : List V} (s : Sim K H α S) (t : H a = some (.tup vs)) (rs : Reps K H α xs vs) : ItS K α H (Itt K a) (.tup xs) where
  go := fun i H1 α1 S1 d p s1 h => by
    have hd : xs[i]? = some d := Option.some.inj h
    have t1 := (p.grow s).tup _ _ t
    obtain ⟨v, e, r⟩ := (rs.mono (p.grow s) p.pre).get hd
    refine ⟨⟨vs, v, SqT.of t1, e⟩, fun w H' y => ?_⟩
    obtain ⟨e1, y⟩ := y
    subst e1
    have := y vs (SqT.of t1)
    rw [e] at this; cases this
    exact ⟨α1, Stp.refl, s1, r⟩
  stop := fun i H1 α1 S1 p s1 h => by
    have hd : xs[i]? = none := Option.some.inj h
    exact ⟨vs, SqT.of ((p.grow s).tup _ _ t), by rw [← rs.length]; exact List.getElem?_eq_none_iff.mp hd⟩
theorem its_rng {lo : Int} {n : Nat} : ItS K α H (L2.Itr lo n) (.rng lo n) where
  go := fun i H1 α1 S1 d p s1 h => by
    have hd := Option.some.inj h
    by_cases hi : i < n
    · rw [if_pos hi] at hd
      refine ⟨hi, fun w H' y => ?_⟩
      obtain ⟨e1, e2⟩ := y
      subst e1; subst e2
      cases hd
      exact ⟨α1, Stp.refl, s1, .int _⟩
    · rw [if_neg hi] at hd; cases hd
  stop := fun i H1 α1 S1 p s1 h => by
    have hd := Option.some.inj h
    by_cases hi : i < n
    · rw [if_pos hi] at hd; cases hd
    · exact Nat.le_of_not_lt hi
theorem its_rngc {lo c : Int} {n : Nat} : ItS K α H (Itc lo c n) (.rngc lo c n) where
  go := fun i H1 α1 S1 d p s1 h => by
    have hd := Option.some.inj h
    by_cases hi : i < n
    · rw [if_pos hi] at hd
      refine ⟨hi, fun w H' y => ?_⟩
      obtain ⟨e1, e2⟩ := y
      subst e1; subst e2
      cases hd
      exact ⟨α1, Stp.refl, s1, .int _⟩
    · rw [if_neg hi] at hd; cases hd
  stop := fun i H1 α1 S1 p s1 h => by
    have hd := Option.some.inj h
    by_cases hi : i < n
    · rw [if_pos hi] at hd; cases hd
    · exact Nat.le_of_not_lt hi
theorem its_str {x : Str} : ItS K α H (Its x) (.str x) where
  go := fun i H1 α1 S1 d p s1 h => by
    have hd := Option.some.inj h
    cases e : x.cps[i]? with
    | none => rw [e] at hd; cases hd
    | some c =>
      rw [e] at hd; cases hd
      refine ⟨(Array.getElem?_eq_some_iff.mp e).1, fun w H' y => ?_⟩
      obtain ⟨e1, c', e2, e3⟩ := y
      subst e1; subst e3
      rw [e] at e2; cases e2
      exact ⟨α1, Stp.refl, s1, .str _⟩
  stop := fun i H1 α1 S1 p s1 h => by
    have hd := Option.some.inj h
    cases e : x.cps[i]? with
    | none => exact Array.getElem?_eq_none_iff.mp e
    | some c => rw [e] at hd; cases hd
end
def iVal (a : ME) : MI := fun E S => (a E S).then fun x S1 => match x with
  | .tup xs => .ok (.tup xs) S1
  | _ => .no
def iLst (a : ME) : MI := fun E S => (a E S).then fun x S1 => match x with
  | .ref l => (match S1[l]? with
    | some (.lst _) => .ok (.lst l) S1
    | _ => .no)
  | .scr ns => .ok (.scr ns) S1
  | _ => .no
def iStr (a : ME) : MI := fun E S => (a E S).then fun x S1 => match x with
  | .str y => .ok (.str y) S1
  | _ => .no
def iRng1 (a : MA) : MI := fun E S => (a E S).then fun x S1 => match x with
  | [.int j] => if -4611686018427387904 ≤ j ∧ j < 4611686018427387904 then .ok (.rng 0 j.toNat) S1 else .no
  | _ => .no
def iRng2 (a : MA) : MI := fun E S => (a E S).then fun x S1 => match x with
  | [.int i, .int j] => if -4611686018427387904 ≤ i ∧ i < 4611686018427387904 ∧ -4611686018427387904 ≤ j ∧ j < 4611686018427387904 then .ok (.rng i (j - i).toNat) S1 else .no
  | _ => .no
section
variable {X : Cx} {W : WX} {pos : Pos} {a b c e tg : Expr} {ma mb mc m : ME} {ml : MA}
theorem i_tup (h : SE X W a m) : SI X W tg a (iVal m) := PIimp (pi_tup h) fun σ H Q ⟨α, E, S, s, re, h⟩ => by
  refine iE.thenI s re h fun x S1 α1 H1 v p1 s1 re1 r1 h1 => ?_
  cases r1 with
  | @tup a vs ds t rs => exact ⟨a, rfl, ⟨vs, SqT.of t⟩, h1.ret s1 (its_tup s1 t rs)⟩
  | _ => exact h1.elim
theorem i_lst (h : SE X W a m) : SI X W tg a (iLst m) := PIimp (pi_list h) fun σ H Q ⟨α, E, S, s, re, h⟩ => by
  refine iE.thenI s re h fun x S1 α1 H1 v p1 s1 re1 r1 h1 => ?_
  cases r1 with
  | @ref l a ea =>
    simp only at h1
    split at h1
    · rename_i xs e
      obtain ⟨vs, q, _⟩ := sq_later ea Stp.refl s1 e
      exact ⟨a, rfl, ⟨vs, q⟩, h1.ret s1 (its_lst ea)⟩
    · exact h1.elim
  | @scr a ns hs => exact ⟨a, rfl, ⟨_, hs.sq⟩, h1.ret s1 (its_scr s1 hs)⟩
  | _ => exact h1.elim
theorem i_str (h : SE X W a m) : SI X W tg a (iStr m) := PIimp (pi_str h) fun σ H Q ⟨α, E, S, s, re, h⟩ => by
  refine iE.thenI s re h fun x S1 α1 H1 v p1 s1 re1 r1 h1 => ?_
  cases r1 with
  | str y => exact ⟨y, rfl, h1.ret s1 its_str⟩
  | _ => exact h1.elim
theorem Reps.one {K : PySem.W.Frag} {H : Hp} {α : List Addr} {d : D} {vs : List V} (r : Reps K H α [d] vs) : ∃ v, vs = [v] ∧ Rep K H α d v := by
  cases r with
  | cons r rs => cases rs; exact ⟨_, rfl, r⟩
theorem Reps.two {K : PySem.W.Frag} {H : Hp} {α : List Addr} {d e : D} {vs : List V} (r : Reps K H α [d, e] vs) : ∃ v u, vs = [v, u] ∧ Rep K H α d v ∧ Rep K H α e u := by
  cases r with
  | cons r rs => obtain ⟨u, rfl, r2⟩ := rs.one; exact ⟨_, _, rfl, r, r2⟩
theorem i_rng1 {p : Pos} (hg : Gl X "range") (hm : X.mg "range" = none) (ha : SA X W [a] ml) (hs : starEach [a] X.env = [(false, eval a X.env)] := by rfl) : SI X W tg (.Call (.Name "range" p) [a] [] pos) (iRng1 ml) := PIimp (pi_range1 hg hm ha hs) fun σ H Q ⟨α, E, S, s, re, h⟩ => by
  refine iA.thenI s re h fun x S1 α1 H1 v p1 s1 re1 r1 h1 => ?_
  split at h1
  · rename_i j
    split at h1
    · rename_i hj
      obtain ⟨v, rfl, r⟩ := r1.one
      cases r
      exact ⟨j, rfl, hj.1, hj.2, h1.ret s1 its_rng⟩
    · exact h1.elim
  · exact h1.elim
theorem i_rng2 {p : Pos} (hg : Gl X "range") (hm : X.mg "range" = none) (ha : SA X W [a, b] ml) (hs : starEach [a, b] X.env = [(false, eval a X.env), (false, eval b X.env)] := by rfl) (hs2 : starEach [b] X.env = [(false, eval b X.env)] := by rfl) : SI X W tg (.Call (.Name "range" p) [a, b] [] pos) (iRng2 ml) := PIimp (pi_range2 hg hm ha hs hs2) fun σ H Q ⟨α, E, S, s, re, h⟩ => by
  refine iA.thenI s re h fun x S1 α1 H1 v p1 s1 re1 r1 h1 => ?_
  split at h1
  · rename_i i j
    split at h1
    · rename_i hj
      obtain ⟨v, u, rfl, r, r2⟩ := r1.two
      cases r; cases r2
      exact ⟨i, j, rfl, hj, h1.ret s1 its_rng⟩
    · exact h1.elim
  · exact h1.elim
end

/-! ### for -/
def fLoop (I : Wk) (g : MG) (b : MS) : Nat → Nat → MS
  | 0, _ => fun _ _ => .no
  | n + 1, i => fun E S => match I.at i S with
    | none => .no
    | some none => .nx E S
    | some (some x) => match g x E S with
      | none => .no
      | some (E1, S1) => match b E1 S1 with
        | .nx E' S' => fLoop I g b n (i + 1) E' S'
        | .ct E' S' => fLoop I g b n (i + 1) E' S'
        | .bk E' S' => .nx E' S'
        | .ret d S' => .ret d S'
        | .exc c fs E' S' => .exc c fs E' S'
        | .no => .no
def sFor (n : Nat) (it : MI) (g : MG) (b : MS) : MS := fun E S => (it E S).thenS E fun I S1 => fLoop I g b n 0 E S1
section
variable {X : Cx} {W : WX} {pos : Pos} {e tg : Expr} {g : MG} {mi : MI}
theorem iI.thenR {K : PySem.W.Frag} {mg : Str → Option Value} {H : Hp} {α : List Addr} {σ : L2.St} {S : Store} {E : En} {DD : Ends} {f : Wk → Store → SR} {R : It → Hp → Prop} (s : Sim K H α S) (re : RelE K H α E σ) (h : PR K mg H α W DD ((mi E S).thenS E f))
    (k : ∀ x S' α' H' J, Stp α H α' H' → Sim K H' α' S' → RelE K H' α' E σ → ItS K α' H' J x → PR K mg H' α' W DD (f x S') → R J H') : iI K mg W mi σ H R := by
  refine ⟨α, E, S, s, re, ?_⟩
  cases hr : mi E S with
  | ok x S' =>
    rw [hr] at h
    intro α' H' J p s' r
    exact k x S' α' H' J p s' (re.mono (p.grow s) p.pre) r (PR.mono h p (fun _ _ q => q) (fun _ _ q => q) (fun _ _ q => q) (fun _ _ q => q) fun _ _ _ _ q => q)
  | exc c fs S' => rw [hr] at h; exact fun α' H' cls d p s' e => h α' H' σ cls d p s' (re.mono (p.grow s) p.pre) e
  | no => rw [hr] at h; exact h
theorem s_for {xs : List Stmt} {mb : MS} (n : Nat) (hp : PassesOwn (model X.prog X.w) X.A X.env X.xe) (hc : X.calm = true) {sl : List Nat} (hi : SI X W tg e mi) (hg : SG X sl tg g) (hb : SSs X W xs mb) (hs : ∀ x, foldedSetIterable e X.env x = pure x := by exact fun _ => rfl) :
    SS X W (.For tg e xs [] pos) (sFor n mi g mb) := PS.imp (ps_for hp hc hi hg hb hs) fun DD σ H ⟨α, E, S, s, re, h⟩ => by
  refine iI.thenR s re h fun I S1 α1 H1 J p1 s1 re1 r1 h1 => ?_
  refine ⟨fun i m σ H => ∃ α E S, Stp α1 H1 α H ∧ Sim X.K H α S ∧ RelE X.K H α E σ ∧ PR X.K X.mg H α W DD (fLoop I g mb m i E S), ⟨n, α1, E, S1, Stp.refl, s1, re1, h1⟩, ?_⟩
  rintro i m σ H ⟨α, E, S, st, s, re, h⟩
  cases m with
  | zero => exact h.elim
  | succ m =>
    have h : PR X.K X.mg H α W DD (match I.at i S with
      | none => .no
      | some none => .nx E S
      | some (some x) => match g x E S with
        | none => .no
        | some (E1, S1) => match mb E1 S1 with
          | .nx E' S' => fLoop I g mb m (i + 1) E' S'
          | .ct E' S' => fLoop I g mb m (i + 1) E' S'
          | .bk E' S' => .nx E' S'
          | .ret d S' => .ret d S'
          | .exc c fs E' S' => .exc c fs E' S'
          | .no => .no) := h
    cases ei : I.at i S with
    | none => rw [ei] at h; exact h.elim
    | some o =>
      rw [ei] at h
      cases o with
      | none => exact .inl ⟨r1.stop i H α S st s ei, PR.nx' h s re⟩
      | some x =>
        obtain ⟨go, yl⟩ := r1.go i H α S x st s ei
        refine .inr ⟨go, fun σ' H' => ∃ α E S, Stp α1 H1 α H' ∧ Sim X.K H' α S ∧ RelE X.K H' α E σ' ∧ PR X.K X.mg H' α W DD (fLoop I g mb m (i + 1) E S), fun σ' H' q => ⟨m, Nat.lt_succ_self m, q⟩, fun v H2 y => ?_⟩
        obtain ⟨α2, p2, s2, r2⟩ := yl v H2 y
        refine ⟨α2, E, S, x, s2, re.mono (p2.grow s) p2.pre, r2, ?_⟩
        have h : PR X.K X.mg H α W DD (match g x E S with
          | none => .no
          | some (E1, S1) => match mb E1 S1 with
            | .nx E' S' => fLoop I g mb m (i + 1) E' S'
            | .ct E' S' => fLoop I g mb m (i + 1) E' S'
            | .bk E' S' => .nx E' S'
            | .ret d S' => .ret d S'
            | .exc c fs E' S' => .exc c fs E' S'
            | .no => .no) := h
        cases eg : g x E S with
        | none => rw [eg] at h; exact h.elim
        | some z =>
          obtain ⟨E1, S1'⟩ := z
          rw [eg] at h
          intro α3 H3 σ3 p3 s3 re3 _
          refine ⟨α3, E1, S1', s3, re3, ?_⟩
          have p03 := p2.trans p3
          have h := PR.mono (D' := DD) (W' := W) h p03 (fun _ _ q => q) (fun _ _ q => q) (fun _ _ q => q) (fun _ _ q => q) fun _ _ _ _ q => q
          have st3 := st.trans p03
          have h : PR X.K X.mg H3 α3 W DD (match mb E1 S1' with
            | .nx E' S' => fLoop I g mb m (i + 1) E' S'
            | .ct E' S' => fLoop I g mb m (i + 1) E' S'
            | .bk E' S' => .nx E' S'
            | .ret d S' => .ret d S'
            | .exc c fs E' S' => .exc c fs E' S'
            | .no => .no) := h
          cases hr : mb E1 S1' with
          | nx E' S' => rw [hr] at h; exact fun α' H' σ' p s' re' => ⟨α', E', S', st3.trans p, s', re', PR.mono h p (fun _ _ q => q) (fun _ _ q => q) (fun _ _ q => q) (fun _ _ q => q) fun _ _ _ _ q => q⟩
          | ct E' S' => rw [hr] at h; exact fun α' H' σ' p s' re' => ⟨α', E', S', st3.trans p, s', re', PR.mono h p (fun _ _ q => q) (fun _ _ q => q) (fun _ _ q => q) (fun _ _ q => q) fun _ _ _ _ q => q⟩
          | bk E' S' => rw [hr] at h; exact h
          | ret d S' => rw [hr] at h; exact h
          | exc c fs E' S' => rw [hr] at h; exact h
          | no => rw [hr] at h; exact h
end
end L3

set_option Elab.async false
set_option linter.all false
set_option maxRecDepth 100000
namespace L3
open PySem PySem.Spec PyProof.Rows L2

/-! ### list comprehensions -/
def wipeE (E : En) : List Nat → En
  | [] => E
  | v :: vs => (wipeE E vs).set v none
theorem wipeE_length (E : En) : ∀ vs : List Nat, (wipeE E vs).length = E.length
  | [] => rfl
  | v :: vs => by unfold wipeE; rw [List.length_set, wipeE_length E vs]
theorem RelE.wipe {K : PySem.W.Frag} {H : Hp} {α : List Addr} {E : En} {σ : L2.St} (h : RelE K H α E σ) : ∀ vs : List Nat, RelE K H α (wipeE E vs) (L2.wipe σ vs)
  | [] => h
  | v :: vs => by
    have ih := RelE.wipe h vs
    unfold wipeE L2.wipe
    refine ⟨by rw [List.length_set, List.length_set]; exact ih.len, fun i d e => ?_⟩
    by_cases hv : v = i
    · subst hv
      by_cases hl : v < (wipeE E vs).length
      · rw [List.getElem?_set_self hl] at e; cases e
      · rw [List.getElem?_eq_none (by rw [List.length_set]; omega)] at e; cases e
    · rw [List.getElem?_set_ne hv] at e
      obtain ⟨w, e1, r⟩ := ih.at_ i d e
      exact ⟨w, by rw [List.getElem?_set_ne hv]; exact e1, r⟩
def mYes : MT := fun _ S => .ok true S
def cLoop (I : Wk) (g : MG) (t : MT) (e : ME) (Ew : En) : Nat → Nat → List D → Store → Res (List D)
  | 0, _, _, _ => .no
  | n + 1, i, acc, S => match I.at i S with
    | none => .no
    | some none => .ok acc S
    | some (some x) => match g x Ew S with
      | none => .no
      | some (E1, S1) => match t E1 S1 with
        | .ok true S2 => (match e E1 S2 with
          | .ok y S3 => if acc.length < 16777216 then cLoop I g t e Ew n (i + 1) (acc ++ [y]) S3 else .no
          | _ => .no)
        | .ok false S2 => cLoop I g t e Ew n (i + 1) acc S2
        | _ => .no
def mComp (n : Nat) (it : MI) (g : MG) (t : MT) (e : ME) (vs : List Nat) : ME := fun E S => (it E S).then fun I S1 => match cLoop I g t e (wipeE E vs) n 0 [] S1 with
  | .ok acc S2 => .ok (.ref S2.length) (S2 ++ [.lst acc])
  | _ => .no
def WN : WX := fun _ _ _ _ => False
theorem takes_never {X : Cx} : Takes X WN := fun _ _ ⟨_, _, _, _, _, _, _, _, _, _, _, _, _, _, _, _, w⟩ => w.elim
theorem Sim.off {K : PySem.W.Frag} {H : Hp} {α : List Addr} {S : Store} {p : Addr} {xs ys : List V} (s : Sim K H α S) (n : p ∉ α) (e : H p = some (.lst xs)) : Sim K (upd H p (.lst ys)) α S :=
  ⟨s.nd, s.len, fun i o a e1 e2 => (s.obj i o a e1 e2).mono (grow_upd e trivial) Pre.refl (upd_ne fun z => n (by rw [← z]; exact List.mem_of_getElem? e2))⟩
section
variable {X : Cx} {W : WX} {pos : Pos} {elt iter tg : Expr} {g : MG} {mi : MI} {t : MT} {m : ME} {ifs : List Expr}
theorem iI.thenV {K : PySem.W.Frag} {mg : Str → Option Value} {H : Hp} {α : List Addr} {σ : L2.St} {S : Store} {E : En} {Q : VK} {f : Wk → Store → Res D} {R : It → Hp → Prop} (s : Sim K H α S) (re : RelE K H α E σ) (h : PV K mg H α (fun c d H' => W c d σ H') Q ((mi E S).then f))
    (k : ∀ x S' α' H' J, Stp α H α' H' → Sim K H' α' S' → RelE K H' α' E σ → ItS K α' H' J x → PV K mg H' α' (fun c d H' => W c d σ H') Q (f x S') → R J H') : iI K mg W mi σ H R := by
  refine ⟨α, E, S, s, re, ?_⟩
  cases hr : mi E S with
  | ok x S' =>
    rw [hr] at h
    intro α' H' J p s' r
    exact k x S' α' H' J p s' (re.mono (p.grow s) p.pre) r (PV.mono h p (fun _ _ q => q) fun _ _ _ q => q)
  | exc c fs S' => rw [hr] at h; exact h
  | no => rw [hr] at h; exact h
abbrev STs (X : Cx) (W : WX) (ifs : List Expr) (m : MT) : Prop := PTs X ifs (iT X.K X.mg W m)
theorem ts_nil : STs X W [] mYes := ⟨fun pins s σ H Q I h => pts_nil.run pins s σ H Q I (by obtain ⟨α, E, S, s, re, h⟩ := h; exact h.ret s)⟩
theorem ts_one {c : Expr} (h : ST X W c t) : STs X W [c] t := pts_one h
/-- the core: from the machine's comprehension to HandS's reading -/
theorem lc_of {vs : List Nat} {n : Nat} (σ : L2.St) (H : Hp) (Q : VK) (h : iE X.K X.mg W (mComp n mi g t m vs) σ H Q) :
    tLc (iI X.K X.mg W mi) (L3.iG X.K vs g) (iT X.K X.mg WN t) (iE X.K X.mg WN m) vs σ H Q := by
  obtain ⟨α, E, S, s, re, h⟩ := h
  refine iI.thenV s re h fun I S1 α1 H1 J p1 s1 re1 r1 h1 => ?_
  intro D hD
  have h1 : PV X.K X.mg H1 α1 (fun c d H' => W c d σ H') Q (match cLoop I g t m (wipeE E vs) n 0 [] S1 with
    | .ok acc S2 => .ok (.ref S2.length) (S2 ++ [.lst acc])
    | _ => .no) := h1
  refine ⟨fun i k H' => ∃ α' S' acc accV, Stp α1 H1 α' H' ∧ D ∉ α' ∧ H' D = some (.lst accV) ∧ Reps X.K H' α' acc accV ∧ Sim X.K H' α' S' ∧
    (match cLoop I g t m (wipeE E vs) k i acc S' with
      | .ok acc S2 => PV X.K X.mg H1 α1 (fun c d H' => W c d σ H') Q (.ok (.ref S2.length) (S2 ++ [.lst acc]))
      | _ => False), ⟨n, α1, S1, [], [], Stp.fresh hD, fun z => ?_, upd_same, .nil, s1.fresh hD, ?_⟩, ?_⟩
  · obtain ⟨j, hj⟩ := List.mem_iff_getElem?.mp z
    exact s1.tracked hj hD
  · cases e : cLoop I g t m (wipeE E vs) n 0 [] S1 with
    | ok acc S2 => rw [e] at h1; exact h1
    | exc c fs S2 => rw [e] at h1; exact h1
    | no => rw [e] at h1; exact h1
  · rintro i k H2 ⟨α2, S2, acc, accV, st2, nD, eD, rD, s2, hk⟩
    cases k with
    | zero => exact hk.elim
    | succ k =>
      simp only [cLoop] at hk
      cases ei : I.at i S2 with
      | none => rw [ei] at hk; exact hk.elim
      | some o =>
        cases o with
        | none =>
          rw [ei] at hk
          refine .inl ⟨r1.stop i H2 α2 S2 st2 s2 ei, ?_⟩
          have st3 : Stp α1 H1 (α2 ++ [D]) H2 := by
            refine ⟨st2.pre.trans Pre.app, fun a ha => ?_, st2.keep⟩
            rcases List.mem_append.mp ha with ha | ha
            · exact st2.new a ha
            · have e : a = D := by simpa using ha
              subst e; exact .inr hD
          have s3 : Sim X.K H2 (α2 ++ [D]) (S2 ++ [.lst acc]) := by
            refine ⟨fun i j a e1 e2 => ?_, by simp [s2.len], fun i o a e1 e2 => ?_⟩
            · rw [List.getElem?_append] at e1 e2
              split at e1 <;> split at e2
              · exact s2.nd i j a e1 e2
              · rename_i h1 h2
                have : j - α2.length < 1 := by have := (List.getElem?_eq_some_iff.mp e2).1; simpa using this
                have e : j - α2.length = 0 := by omega
                rw [e] at e2
                have : D = a := by simpa using e2
                subst this
                exact absurd (List.mem_of_getElem? e1) nD
              · rename_i h1 h2
                have : i - α2.length < 1 := by have := (List.getElem?_eq_some_iff.mp e1).1; simpa using this
                have e : i - α2.length = 0 := by omega
                rw [e] at e1
                have : D = a := by simpa using e1
                subst this
                exact absurd (List.mem_of_getElem? e2) nD
              · have := (List.getElem?_eq_some_iff.mp e1).1
                have := (List.getElem?_eq_some_iff.mp e2).1
                simp at *
                omega
            · by_cases hi : i < S2.length
              · rw [List.getElem?_append_left hi] at e1
                rw [List.getElem?_append_left (by rw [s2.len]; exact hi)] at e2
                exact (s2.obj i o a e1 e2).mono Grow.refl Pre.app rfl
              · have hl : i < (S2 ++ [O.lst acc]).length := (List.getElem?_eq_some_iff.mp e1).1
                have : i = S2.length := by simp at hl; omega
                subst this
                rw [List.getElem?_append_right (Nat.le_refl _)] at e1
                simp at e1
                rw [← s2.len, List.getElem?_append_right (Nat.le_refl _)] at e2
                simp at e2
                subst e1; subst e2
                exact ⟨accV, eD, rD.mono Grow.refl Pre.app⟩
          exact hk (α2 ++ [D]) H2 (.ref D) st3 s3 (.ref (by rw [← s2.len]; simp))
        | some x =>
          rw [ei] at hk
          obtain ⟨go, yl⟩ := r1.go i H2 α2 S2 x st2 s2 ei
          refine .inr ⟨go, fun H' => ∃ α' S' acc accV, Stp α1 H1 α' H' ∧ D ∉ α' ∧ H' D = some (.lst accV) ∧ Reps X.K H' α' acc accV ∧ Sim X.K H' α' S' ∧
            (match cLoop I g t m (wipeE E vs) k (i + 1) acc S' with
              | .ok acc S2 => PV X.K X.mg H1 α1 (fun c d H' => W c d σ H') Q (.ok (.ref S2.length) (S2 ++ [.lst acc]))
              | _ => False), fun H' q => ⟨k, Nat.lt_succ_self k, q⟩, fun v H3 y => ?_⟩
          obtain ⟨α3, p3, s3, r3⟩ := yl v H3 y
          have keepD : ∀ {αa αb : List Addr} {Ha Hb : Hp}, Stp αa Ha αb Hb → D ∉ αa → Ha D = some (.lst accV) → D ∉ αb ∧ Hb D = some (.lst accV) := fun {αa αb Ha Hb} p n e => by
            refine ⟨fun z => ?_, p.keep D _ e n⟩
            rcases p.new D z with q | q
            · exact n q
            · rw [e] at q; cases q
          obtain ⟨nD3, eD3⟩ := keepD p3 nD eD
          have rD3 := rD.mono (p3.grow s2) p3.pre
          have re3 : RelE X.K H3 α3 (wipeE E vs) (L2.wipe σ vs) := ((re1.mono (st2.grow s1) st2.pre).mono (p3.grow s2) p3.pre).wipe vs
          refine ⟨α3, wipeE E vs, S2, x, s3, re3, r3, ?_⟩
          simp only at hk
          cases eg : g x (wipeE E vs) S2 with
          | none => rw [eg] at hk; exact hk.elim
          | some z =>
            obtain ⟨E1, S4⟩ := z
            rw [eg] at hk
            intro α4 H4 σ4 p4 s4 re4 w4
            obtain ⟨nD4, eD4⟩ := keepD p4 nD3 eD3
            have rD4 := rD3.mono (p4.grow s3) p4.pre
            refine ⟨w4.trans ?_, α4, E1, S4, s4, re4, ?_⟩
            · apply List.ext_getElem?
              intro j
              rw [wipe_get, L2.wipe_length, wipe_get]
              by_cases hj : j ∈ vs ∧ j < σ.length
              · simp only [if_pos hj]
              · rw [if_neg hj]
            · simp only at hk
              cases et : t E1 S4 with
              | no => rw [et] at hk; exact hk.elim
              | exc c fs S5 => rw [et] at hk; exact hk.elim
              | ok b S5 =>
                rw [et] at hk
                intro α5 H5 p5 s5
                obtain ⟨nD5, eD5⟩ := keepD p5 nD4 eD4
                have rD5 := rD4.mono (p5.grow s4) p5.pre
                have re5 := re4.mono (p5.grow s4) p5.pre
                cases b with
                | false =>
                  refine ite_ff ⟨α5, S5, acc, accV, ((st2.trans p3).trans p4).trans p5, nD5, eD5, rD5, s5, hk⟩
                | true =>
                  refine ite_tt ⟨α5, E1, S5, s5, re5, ?_⟩
                  simp only at hk
                  cases ee : m E1 S5 with
                  | no => rw [ee] at hk; exact hk.elim
                  | exc c fs S6 => rw [ee] at hk; exact hk.elim
                  | ok y S6 =>
                    rw [ee] at hk
                    intro α6 H6 u p6 s6 r6
                    obtain ⟨nD6, eD6⟩ := keepD p6 nD5 eD5
                    have rD6 := rD5.mono (p6.grow s5) p6.pre
                    simp only at hk
                    by_cases hlen : acc.length < 16777216
                    · rw [if_pos hlen] at hk
                      refine ⟨accV, eD6, by rw [sizeLine_eq, ← rD6.length]; exact hlen, α6, S6, acc ++ [y], accV ++ [u], ?_, nD6, upd_same, ?_, s6.off nD6 eD6, hk⟩
                      · have st6 := (((st2.trans p3).trans p4).trans p5).trans p6
                        exact ⟨st6.pre, st6.new, fun a o e n => by rw [upd_ne (ne_of_none e hD)]; exact st6.keep a o e n⟩
                      · have gr := grow_upd (K := X.K) (p := D) (o := .lst (accV ++ [u])) eD6 trivial
                        exact (rD6.append (.cons r6 .nil)).mono gr Pre.refl
                    · rw [if_neg hlen] at hk; exact hk.elim
/-- [elt for tg in iter if ..] -/
theorem e_comp {scope : Scope} {own : List (Str × Nat)} (n : Nat) (hc : X.calm = true) (hN : X.N.Nodup) (hi : SI X W tg iter mi) (ok : BlkOk X.N X.env.scope scope own)
    (hg : ∀ (s : Shared) (H : Hp) (C : Addr) (cl : List (Str × Addr)) (fp : List Addr), SG (X.blk s H scope (compEnvC scope cl C X.env) fp) (own.map (·.2)) tg g)
    (ht : ∀ (s : Shared) (H : Hp) (C : Addr) (cl : List (Str × Addr)) (fp : List Addr), STs (X.blk s H scope (compEnvC scope cl C X.env) fp) WN ifs t)
    (he : ∀ (s : Shared) (H : Hp) (C : Addr) (cl : List (Str × Addr)) (fp : List Addr), SE (X.blk s H scope (compEnvC scope cl C X.env) fp) WN elt m) (hs : ∀ x, foldedSetIterable iter X.env x = pure x := by intro _; rfl) :
    SE X W (.ListComp elt [⟨tg, iter, ifs, 0⟩] scope pos) (mComp n mi g t m (own.map (·.2))) :=
  PE.imp (pe_lc hc hN hi ok hg ht he hs) fun σ H Q h => lc_of σ H Q h
/-- name = [elt for ..] on one line -/
theorem s_setComp {scope : Scope} {own : List (Str × Nat)} {y : Str} {py spos : Pos} (i n : Nat) (hc : X.calm = true) (hN : X.N.Nodup) (hi : SI X W tg iter mi) (ok : BlkOk X.N X.env.scope scope own)
    (hg : ∀ (s : Shared) (H : Hp) (C : Addr) (cl : List (Str × Addr)) (fp : List Addr), SG (X.blk s H scope (compEnvC scope cl C X.env) fp) (own.map (·.2)) tg g)
    (ht : ∀ (s : Shared) (H : Hp) (C : Addr) (cl : List (Str × Addr)) (fp : List Addr), STs (X.blk s H scope (compEnvC scope cl C X.env) fp) WN ifs t)
    (he : ∀ (s : Shared) (H : Hp) (C : Addr) (cl : List (Str × Addr)) (fp : List Addr), SE (X.blk s H scope (compEnvC scope cl C X.env) fp) WN elt m)
    (hy : X.N[i]? = some y := by rfl) (hyl : X.env.scope.names.lookup y = some .local := by rfl)
    (hsw : swapsWith (.ListComp elt [⟨tg, iter, ifs, 0⟩] scope pos) (some (.Name y py)) spos.line X.env = pure true := by exact sw_true rfl rfl rfl (by decide +kernel)) (hs : ∀ x, foldedSetIterable iter X.env x = pure x := by intro _; rfl) :
    SS X W (.Assign [.Name y py] (.ListComp elt [⟨tg, iter, ifs, 0⟩] scope pos) spos) (sSet i (mComp n mi g t m (own.map (·.2)))) :=
  PS.imp (ps_setLc hc hN hy hyl hsw hi ok hg ht he hs) fun DD σ H ⟨α, E, S, s, re, h⟩ => by
    refine lc_of (W := W) (n := n) (g := g) (t := t) (m := m) σ H _ ?_
    exact iE.thenR s re h fun x S1 α1 H1 v p1 s1 re1 r1 h1 => h1.nx' s1 (re1.set r1)
end

/-! ### defs -/
/-- what a body's end is, as a call's -/
def SR.res : SR → Res D
  | .nx _ S => .ok .non S
  | .ret d S => .ok d S
  | .exc c fs _ S => .exc c fs S
  | _ => .no
abbrev FN := List D → Store → Res D
/-- a def: so many parameters, so many slots, its body -/
def runF (np ns : Nat) (b : MS) : FN := fun ds S => if ds.length = np then (b (ds.map some ++ List.replicate (ns - np) none) S).res else .no
def spF (K : PySem.W.Frag) (mg : Str → Option Value) (np : Nat) (F : FN) : Sp := fun vs H Q E => ∃ α ds S, Sim K H α S ∧ Reps K H α ds vs ∧ ds.length = np ∧ PV K mg H α E Q (F ds S)
/-- a def's arguments are bound by their places -/
def BindA (fd : FuncData) (ps : List Str) : Prop := ∀ (s : Shared) (us : List Value), us.length = ps.length → BindsTo s fd ⟨us, []⟩ (ps.zip us)
theorem BindA.binds {K : PySem.W.Frag} {fd : FuncData} {ps : List Str} (h : BindA fd ps) : Binds K fd ps [] := fun s us _ hl => by
  rw [List.append_nil] at hl ⊢
  exact h s us hl
/-- a def of the module that does as told, by at most k calls deep -/
structure HasFn (P : Program) (w : World) (K : PySem.W.Frag) (mg : Str → Option Value) (base : Heap) (k : Nat) (x : Str) (np : Nat) (F : FN) : Prop where
  len : ∀ ds S, ds.length ≠ np → F ds S = .no
  ex : ∃ f fd ps, mg x = some (.ref f) ∧ PySem.W.keepIn K (.ref f) = true ∧ Binds K fd ps [] ∧ ps.length = np ∧ FnOk P w K mg base (L2.CX P w) k f fd ps (spF K mg np F)
def mCall (F : FN) (a : MA) : ME := fun E S => (a E S).then F
mutual
def D.pure : D → Bool
  | .tup xs => D.pures xs
  | .ref _ => false
  | _ => true
def D.pures : List D → Bool
  | [] => true
  | x :: xs => D.pure x && D.pures xs
end
section
variable {K : PySem.W.Frag} {H H' : Hp} {α β : List Addr}
mutual
theorem Rep.any (g : Grow K H H') : ∀ {d : D} {v : V}, d.pure = true → Rep K H α d v → Rep K H' β d v
  | _, _, _, .non => .non
  | _, _, _, .bl b => .bl b
  | _, _, _, .int i => .int i
  | _, _, _, .str x => .str x
  | _, _, h, .tup t r => .tup (g.tup _ _ t) (Reps.any g (by simpa [D.pure] using h) r)
  | _, _, _, .scr h => .scr (g.scr h)
  | _, _, h, .ref _ => by simp [D.pure] at h
theorem Reps.any (g : Grow K H H') : ∀ {ds : List D} {vs : List V}, D.pures ds = true → Reps K H α ds vs → Reps K H' β ds vs
  | _, _, _, .nil => .nil
  | _, _, h, .cons r rs => by
    simp only [D.pures, Bool.and_eq_true] at h
    exact .cons (Rep.any g h.1 r) (Reps.any g h.2 rs)
end
theorem Sim.empty : Sim K H [] [] := ⟨fun i j a h => by simp at h, rfl, fun i o a h => by simp at h⟩
/-- what was done with an empty store, over any store -/
theorem Stp.frame {S : Store} (p : Stp [] H β H') (s : Sim K H α S) : Stp α H α H' ∧ Sim K H' α S ∧ Grow K H H' := by
  have kp : ∀ a o, H a = some o → H' a = some o := fun a o e => p.keep a o e (by simp)
  have gr : Grow K H H' := ⟨fun a xs h => kp a _ h, fun a o xs h => kp a _ h⟩
  refine ⟨⟨Pre.refl, fun _ h => .inl h, fun a o e _ => kp a o e⟩, ⟨s.nd, s.len, fun i o a e1 e2 => (s.obj i o a e1 e2).mono gr Pre.refl ?_⟩, gr⟩
  have := s.tracked e2
  cases e : H a with
  | none => exact absurd e this
  | some u => exact kp a u e
end
def fsPure (fs : List (Str × D)) : Bool := fs.all fun p => p.2.pure
/-- a call of a def on data alone: what it makes of its own is forgotten -/
def mCallP (F : FN) (a : MA) : ME := fun E S => (a E S).then fun ds S1 => if D.pures ds then (match F ds [] with
  | .ok d _ => if d.pure then .ok d S1 else .no
  | .exc c fs _ => if fsPure fs then .exc c fs S1 else .no
  | .no => .no) else .no
section
variable {X : Cx} {W : WX} {pos p : Pos} {e : Expr} {es : List Expr} {ml : MA} {k np : Nat} {x : Str} {F : FN}
theorem e_call (hF : HasFn X.prog X.w X.K X.mg X.base k x np F) (hr : Room k X.A) (tk : Takes X W) (hg : Gl X x) (ha : SA X W (e :: es) ml) (hdb : (x == ("__debug__" : Str)) = false := by decide)
    (he : starEach (e :: es) X.env = (false, eval e X.env) :: starEach es X.env := by rfl) (hpl : (backTo pos (starEach es X.env)).any (·.1) = false := by rfl) : SE X W (.Call (.Name x p) (e :: es) [] pos) (mCall F ml) := by
  obtain ⟨f, fd, ps, hm, hk, hb, hl, ok⟩ := hF.ex
  refine PE.imp (pe_callSD ok hr hg hm hk hb (dvs := []) .nil (fun σ => passAt tk σ) ha hdb he hpl) fun σ H Q ⟨α, E, S, s, re, h⟩ => ?_
  refine iA.thenV s re h fun xs S1 α1 H1 vs p1 s1 re1 r1 h1 => ?_
  rw [List.append_nil]
  by_cases hn : xs.length = np
  · exact ⟨α1, xs, S1, s1, r1, hn, h1⟩
  · rw [hF.len _ _ hn] at h1; exact h1.elim
theorem e_callP (hF : HasFn X.prog X.w X.K X.mg X.base k x np F) (hr : Room k X.A) (tk : Takes X W) (hg : Gl X x) (ha : SA X W (e :: es) ml) (hdb : (x == ("__debug__" : Str)) = false := by decide)
    (he : starEach (e :: es) X.env = (false, eval e X.env) :: starEach es X.env := by rfl) (hpl : (backTo pos (starEach es X.env)).any (·.1) = false := by rfl) : SE X W (.Call (.Name x p) (e :: es) [] pos) (mCallP F ml) := by
  obtain ⟨f, fd, ps, hm, hk, hb, hl, ok⟩ := hF.ex
  refine PE.imp (pe_callSD ok hr hg hm hk hb (dvs := []) .nil (fun σ => passAt tk σ) ha hdb he hpl) fun σ H Q ⟨α, E, S, s, re, h⟩ => ?_
  refine iA.thenV s re h fun xs S1 α1 H1 vs p1 s1 re1 r1 h1 => ?_
  rw [List.append_nil]
  by_cases hp : D.pures xs = true
  · rw [if_pos hp] at h1
    refine ⟨[], xs, [], Sim.empty, r1.any Grow.refl hp, ?_, ?_⟩
    · by_cases hn : xs.length = np
      · exact hn
      · rw [hF.len _ _ hn] at h1; exact h1.elim
    · cases e : F xs [] with
      | no => rw [e] at h1; exact h1.elim
      | ok d S' =>
        rw [e] at h1
        simp only at h1
        by_cases hd : d.pure = true
        · rw [if_pos hd] at h1
          intro β H' v st sβ r
          obtain ⟨q1, q2, q3⟩ := st.frame s1
          exact h1 α1 H' v q1 q2 (r.any Grow.refl hd)
        · rw [if_neg hd] at h1; exact h1.elim
      | exc c fs S' =>
        rw [e] at h1
        simp only at h1
        by_cases hd : fsPure fs = true
        · rw [if_pos hd] at h1
          intro β H' cls d st sβ r
          obtain ⟨q1, q2, q3⟩ := st.frame s1
          refine h1 α1 H' cls d q1 q2 ?_
          obtain ⟨C, h2, h3, h4⟩ := r
          refine ⟨C, h2, h3, ?_⟩
          rcases h4 with h4 | ⟨dx, ks, h5, h6, h7⟩
          · exact .inl h4
          · refine .inr ⟨dx, ks, h5, h6, ?_⟩
            have key : ∀ {fs : List (Str × D)} {ks : List (Str × V)}, fsPure fs = true → KRep X.K H' β fs ks → KRep X.K H' α1 fs ks := fun {fs ks} hf hk => by
              induction hk with
              | nil => exact .nil
              | cons h t ih =>
                simp only [fsPure, List.all_cons, Bool.and_eq_true] at hf
                exact .cons ⟨h.1, h.2.any Grow.refl hf.1⟩ (ih hf.2)
            exact key hd h7
        · rw [if_neg hd] at h1; exact h1.elim
  · rw [if_neg hp] at h1; exact h1.elim
end
theorem none_at {K : PySem.W.Frag} {H : Hp} {α : List Addr} : ∀ (n : Nat) (i : Nat) (d : D), (List.replicate n (none : Option D))[i]? = some (some d) → False := fun n i d h => by
  rw [List.getElem?_replicate] at h
  split at h <;> cases h
/-- THE RULE for a def: its body does as the machine says -/
theorem fn_ok {P : Program} {w : World} {K : PySem.W.Frag} {mg : Str → Option Value} {base : Heap} {x qual : Str} {st : Stmt} {f : Addr} {fd : FuncData} {N ps : List Str} {k np : Nat} {b : MS} (F : Fun K x qual st f fd) (S : FnScope N ps (defScope st)) (hnp : ps.length = np)
    (hbody : ∀ (cdv : Value) (A : Around) (outer : List Env) (s : Shared) (H : Hp) (E : XK), Room k (A.deeper (envOfC qual (defScope st) s.heap.objs.size f cdv)) →
      SSs (cxOf (L2.CX P w) P w K mg base N qual (defScope st) f cdv A outer s H E) (fun cls d _ H => E cls d H) (defBody st) b) : FnOk P w K mg base (L2.CX P w) (k + 1) f fd ps (spF K mg np (runF np N.length b)) := by
  refine F.okX S (fun vs H Q E ⟨α, ds, S, s, r, hl, h⟩ => by rw [hnp, ← hl]; exact r.length.symm) fun cdv A outer s H vs Q E hr ⟨α, ds, Sto, si, r, hl, h⟩ => ?_
  refine ⟨_, hbody cdv A outer s H E hr, α, ds.map some ++ List.replicate (N.length - np) none, Sto, si, ⟨?_, fun i d e => ?_⟩, ?_⟩
  · unfold L2.start
    rw [List.length_append, List.length_append, List.length_map, List.length_map, List.length_replicate, List.length_replicate, ← r.length, hl]
  · unfold L2.start
    by_cases hi : i < ds.length
    · rw [List.getElem?_append_left (by simpa using hi), List.getElem?_map] at e
      cases ed : ds[i]? with
      | none => rw [ed] at e; cases e
      | some d' =>
        rw [ed] at e; cases e
        obtain ⟨v, e1, rv⟩ := r.get ed
        exact ⟨v, by rw [List.getElem?_append_left (by rw [List.length_map, ← r.length]; exact hi), List.getElem?_map, e1]; rfl, rv⟩
    · rw [List.getElem?_append_right (by simpa using hi)] at e
      exact (none_at (K := K) (H := H) (α := α) _ _ _ e).elim
  · have h : PV K mg H α E Q (if ds.length = np then (b (ds.map some ++ List.replicate (N.length - np) none) Sto).res else .no) := h
    rw [if_pos hl] at h
    cases hr' : b (ds.map some ++ List.replicate (N.length - np) none) Sto with
    | nx E' S' => rw [hr'] at h; exact fun α' H' σ' p s' re => h α' H' .non p s' .non
    | ret d S' => rw [hr'] at h; exact h
    | bk E' S' => rw [hr'] at h; exact h.elim
    | ct E' S' => rw [hr'] at h; exact h.elim
    | exc c fs E' S' => rw [hr'] at h; exact fun α' H' σ' cls d p s' re e => h α' H' cls d p s' e
    | no => rw [hr'] at h; exact h.elim
theorem runF_len {np ns : Nat} {b : MS} (ds : List D) (S : Store) (h : ds.length ≠ np) : runF np ns b ds S = .no := if_neg h
/-- a def that may not be called (no depth is left) -/
theorem fn_zero {P : Program} {w : World} {K : PySem.W.Frag} {mg : Str → Option Value} {base : Heap} {f : Addr} {fd : FuncData} {ps : List Str} {np : Nat} : FnOk P w K mg base (L2.CX P w) 0 f fd ps (spF K mg np fun _ _ => .no) := by
  have no : ∀ vs H Q E, ¬ spF K mg np (fun _ _ => .no) vs H Q E := fun vs H Q E ⟨_, _, _, _, _, _, h⟩ => h
  exact ⟨fun vs H Q E h => absurd h (no vs H Q E), fun A outer s H args us vs Q E _ _ _ _ h => absurd h (no vs H Q E)⟩
end L3

set_option Elab.async false
set_option linter.all false
set_option maxRecDepth 100000
namespace L3
open PySem PySem.Spec PyProof.Rows L2

/-! ### built-in functions -/
def lenD : FL
  | [.str y], S => if y.length ≤ 16777216 then some (.int y.length, S) else none
  | [.tup xs], S => some (.int xs.length, S)
  | [.ref l], S => match S[l]? with
    | some (.lst xs) => some (.int xs.length, S)
    | some (.dt kvs) => some (.int kvs.length, S)
    | _ => none
  | [.scr ns], S => some (.int ns.length, S)
  | _, _ => none
def intD : FL
  | [.int i], S => some (.int i, S)
  | [.bl k], S => some (.int (if k then 1 else 0), S)
  | _, _ => none
def ints? : List D → Option (List Int)
  | [] => some []
  | .int i :: r => (ints? r).map (i :: ·)
  | _ => none
def bls? : List D → Option (List Bool)
  | [] => some []
  | .bl i :: r => (bls? r).map (i :: ·)
  | _ => none
def lst? (S : Store) (l : Nat) : Option (List D) := match S[l]? with
  | some (.lst xs) => some xs
  | _ => none
def maxI : List Int → Int
  | [] => 0
  | [x] => x
  | x :: r => max x (maxI r)
def minI : List Int → Int
  | [] => 0
  | [x] => x
  | x :: r => min x (minI r)
theorem maxI_mem : ∀ {l : List Int}, l ≠ [] → maxI l ∈ l ∧ ∀ y ∈ l, y ≤ maxI l
  | [], h => absurd rfl h
  | [x], _ => ⟨List.mem_cons_self, fun y hy => by simp at hy; subst hy; exact Int.le_refl _⟩
  | x :: z :: r, _ => by
    obtain ⟨h1, h2⟩ := maxI_mem (l := z :: r) (by simp)
    show max x (maxI (z :: r)) ∈ _ ∧ ∀ y ∈ _, y ≤ max x (maxI (z :: r))
    refine ⟨?_, fun y hy => ?_⟩
    · by_cases h : x ≤ maxI (z :: r)
      · rw [Int.max_eq_right h]; exact List.mem_cons_of_mem _ h1
      · rw [Int.max_eq_left (by omega)]; exact List.mem_cons_self
    · rcases List.mem_cons.mp hy with e | hy
      · subst e; exact Int.le_max_left _ _
      · exact Int.le_trans (h2 y hy) (Int.le_max_right _ _)
theorem minI_mem : ∀ {l : List Int}, l ≠ [] → minI l ∈ l ∧ ∀ y ∈ l, minI l ≤ y
  | [], h => absurd rfl h
  | [x], _ => ⟨List.mem_cons_self, fun y hy => by simp at hy; subst hy; exact Int.le_refl _⟩
  | x :: z :: r, _ => by
    obtain ⟨h1, h2⟩ := minI_mem (l := z :: r) (by simp)
    show min x (minI (z :: r)) ∈ _ ∧ ∀ y ∈ _, min x (minI (z :: r)) ≤ y
    refine ⟨?_, fun y hy => ?_⟩
    · by_cases h : x ≤ minI (z :: r)
      · rw [Int.min_eq_left h]; exact List.mem_cons_self
      · rw [Int.min_eq_right (by omega)]; exact List.mem_cons_of_mem _ h1
    · rcases List.mem_cons.mp hy with e | hy
      · subst e; exact Int.min_le_left _ _
      · exact Int.le_trans (Int.min_le_right _ _) (h2 y hy)
def overL (f : List Int → Option D) : FL
  | [.ref l], S => match lst? S l with
    | some xs => match ints? xs with
      | some ns => (f ns).map fun d => (d, S)
      | none => none
    | none => none
  | _, _ => none
def maxD : FL
  | [.int i, .int j], S => some (.int (if j > i then j else i), S)
  | [.ref l], S => overL (fun ns => if ns ≠ [] then some (.int (maxI ns)) else none) [.ref l] S
  | _, _ => none
def minD : FL
  | [.int i, .int j], S => some (.int (if j < i then j else i), S)
  | [.ref l], S => overL (fun ns => if ns ≠ [] then some (.int (minI ns)) else none) [.ref l] S
  | _, _ => none
def sumD : FL := overL fun ns => some (.int ns.sum)
def overB (f : List Bool → D) : FL
  | [.ref l], S => match lst? S l with
    | some xs => match bls? xs with
      | some ns => some (f ns, S)
      | none => none
    | none => none
  | _, _ => none
def allD : FL := overB fun bs => .bl (bs.all id)
def anyD : FL := overB fun bs => .bl (bs.any id)
def listD : FL
  | [.tup xs], S => some (.ref S.length, S ++ [.lst xs])
  | [.ref l], S => match lst? S l with
    | some xs => some (.ref S.length, S ++ [.lst xs])
    | none => none
  | _, _ => none
def tupleD : FL
  | [.tup xs], S => some (.tup xs, S)
  | [.ref l], S => match lst? S l with
    | some xs => some (.tup xs, S)
    | none => none
  | _, _ => none
def reprD : FL
  | [.int i], S => if i.natAbs.log2 < 1920 then some (.str (toString i), S) else none
  | _, _ => none
def strD : FL
  | [.int i], S => if i.natAbs.log2 < 1920 then some (.str (toString i), S) else none
  | [.str x], S => some (.str x, S)
  | _, _ => none
section
variable {K : PySem.W.Frag} {H : Hp} {α : List Addr} {S : Store}
theorem ints_rep : ∀ {xs : List D} {vs : List V} {ns : List Int}, Reps K H α xs vs → ints? xs = some ns → vs = ns.map V.int
  | [], _, _, .nil, e => by simp only [ints?, Option.some.injEq] at e; subst e; rfl
  | x :: xs, _, ns, .cons r rs, e => by
    cases r with
    | int i =>
      simp only [ints?, Option.map_eq_some_iff] at e
      obtain ⟨ms, e1, rfl⟩ := e
      rw [ints_rep rs e1]; rfl
    | _ => simp [ints?] at e
theorem bls_rep : ∀ {xs : List D} {vs : List V} {ns : List Bool}, Reps K H α xs vs → bls? xs = some ns → vs = ns.map V.bl
  | [], _, _, .nil, e => by simp only [bls?, Option.some.injEq] at e; subst e; rfl
  | x :: xs, _, ns, .cons r rs, e => by
    cases r with
    | bl i =>
      simp only [bls?, Option.map_eq_some_iff] at e
      obtain ⟨ms, e1, rfl⟩ := e
      rw [bls_rep rs e1]; rfl
    | _ => simp [bls?] at e
theorem lst_rep {l : Nat} {a : Addr} {xs : List D} (s : Sim K H α S) (ea : α[l]? = some a) (h : lst? S l = some xs) : ∃ vs, SqL K H a vs ∧ Reps K H α xs vs := by
  unfold lst? at h
  split at h
  · rename_i ys e; cases h; exact sq_later ea Stp.refl s e
  · cases h
end
section
variable {X : Cx}
theorem bs_len : CallS X (.builtin "len") lenD := by
  refine ⟨_, callR_or call_len call_len_dT, fun H α S xs vs Q s r q => ?_⟩
  unfold lenD at q
  split at q
  · rename_i y
    obtain ⟨v, rfl, rr⟩ := r.one
    cases rr
    split at q
    · rename_i hl; exact .inl ⟨.str y, y.length, rfl, ⟨by rw [sizeLine_eq]; exact hl, rfl⟩, PO.ret q s (.int _)⟩
    · exact q.elim
  · rename_i ys
    obtain ⟨v, rfl, rr⟩ := r.one
    cases rr with
    | @tup a us ds t rs => exact .inl ⟨.ref a, ys.length, rfl, .inr ⟨us, SqT.of t, rs.length⟩, PO.ret q s (.int _)⟩
  · rename_i l
    obtain ⟨v, rfl, rr⟩ := r.one
    cases rr with
    | @ref l a ea =>
      split at q
      · rename_i ys e
        obtain ⟨us, h1, rs⟩ := sq_later ea Stp.refl s e
        exact .inl ⟨.ref a, ys.length, rfl, .inl ⟨us, h1, rs.length⟩, PO.ret q s (.int _)⟩
      · rename_i ys e
        obtain ⟨ks, h1, rs⟩ := s.obj _ _ _ e ea
        refine .inr ⟨a, ks, rfl, h1, ?_⟩
        have : ys.length = ks.length := Paired.length rs
        rw [← this]
        exact PO.ret q s (.int _)
      · exact q.elim
  · rename_i ns
    obtain ⟨v, rfl, rr⟩ := r.one
    cases rr with
    | @scr a ns hs => exact .inl ⟨.ref a, ns.length, rfl, .inl ⟨_, hs.sq, by rw [List.length_map]⟩, PO.ret q s (.int _)⟩
  · exact q.elim
theorem bs_int : CallS X (.type "int") intD := by
  refine ⟨_, call_int1, fun H α S xs vs Q s r q => ?_⟩
  unfold intD at q
  split at q
  · rename_i i
    obtain ⟨v, rfl, rr⟩ := r.one
    cases rr
    exact .inl ⟨i, rfl, PO.ret q s (.int _)⟩
  · rename_i i
    obtain ⟨v, rfl, rr⟩ := r.one
    cases rr
    exact .inr ⟨i, rfl, PO.ret q s (.int _)⟩
  · exact q.elim
theorem overL_ok {f : List Int → Option D} {H : Hp} {α : List Addr} {S : Store} {l : Nat} {vs : List V} {Q : VK} (s : Sim X.K H α S) (r : Reps X.K H α [.ref l] vs) (q : PO X.K H α Q (overL f [.ref l] S)) :
    ∃ a ns d, vs = [.ref a] ∧ SqL X.K H a (ns.map V.int) ∧ f ns = some d ∧ PO X.K H α Q (some (d, S)) := by
  obtain ⟨v, rfl, rr⟩ := r.one
  cases rr with
  | @ref l a ea =>
    unfold overL at q
    simp only at q
    cases e : lst? S l with
    | none => rw [e] at q; exact q.elim
    | some xs =>
      rw [e] at q
      obtain ⟨us, h1, rs⟩ := lst_rep s ea e
      simp only at q
      cases e2 : ints? xs with
      | none => rw [e2] at q; exact q.elim
      | some ns =>
        rw [e2] at q
        simp only at q
        cases e3 : f ns with
        | none => rw [e3] at q; exact q.elim
        | some d =>
          rw [e3] at q
          rw [ints_rep rs e2] at h1
          exact ⟨a, ns, d, rfl, h1, e3, q⟩
theorem overB_ok {f : List Bool → D} {H : Hp} {α : List Addr} {S : Store} {l : Nat} {vs : List V} {Q : VK} (s : Sim X.K H α S) (r : Reps X.K H α [.ref l] vs) (q : PO X.K H α Q (overB f [.ref l] S)) :
    ∃ a ns, vs = [.ref a] ∧ SqL X.K H a (ns.map V.bl) ∧ PO X.K H α Q (some (f ns, S)) := by
  obtain ⟨v, rfl, rr⟩ := r.one
  cases rr with
  | @ref l a ea =>
    unfold overB at q
    simp only at q
    cases e : lst? S l with
    | none => rw [e] at q; exact q.elim
    | some xs =>
      rw [e] at q
      obtain ⟨us, h1, rs⟩ := lst_rep s ea e
      simp only at q
      cases e2 : bls? xs with
      | none => rw [e2] at q; exact q.elim
      | some ns =>
        rw [e2] at q
        rw [bls_rep rs e2] at h1
        exact ⟨a, ns, rfl, h1, q⟩
theorem overL_shape {f : List Int → Option D} {xs : List D} {S : Store} : (∃ l, xs = [.ref l]) ∨ overL f xs S = none := by
  unfold overL
  split
  · exact .inl ⟨_, rfl⟩
  · exact .inr rfl
theorem overB_shape {f : List Bool → D} {xs : List D} {S : Store} : (∃ l, xs = [.ref l]) ∨ overB f xs S = none := by
  unfold overB
  split
  · exact .inl ⟨_, rfl⟩
  · exact .inr rfl
theorem bs_max (hc : X.calm = true) : CallS X (.builtin "max") maxD := by
  refine ⟨_, callR_or (call_max2 hc) (cr_max hc), fun H α S xs vs Q s r q => ?_⟩
  unfold maxD at q
  split at q
  · rename_i i j
    obtain ⟨v, u, rfl, r1, r2⟩ := r.two
    cases r1; cases r2
    exact .inl ⟨i, j, rfl, PO.ret q s (.int _)⟩
  · obtain ⟨a, ns, d, rfl, h1, e, q⟩ := overL_ok s r q
    split at e
    · rename_i hn
      cases e
      refine .inr ⟨a, ns, rfl, h1, List.length_pos_iff.mpr hn, fun m hm hy => ?_⟩
      obtain ⟨g1, g2⟩ := maxI_mem hn
      have e : m = maxI ns := Int.le_antisymm (g2 m hm) (hy _ g1)
      rw [e]
      exact PO.ret q s (.int _)
    · cases e
  · exact q.elim
theorem bs_min (hc : X.calm = true) : CallS X (.builtin "min") minD := by
  refine ⟨_, callR_or (call_min2 hc) (cr_min hc), fun H α S xs vs Q s r q => ?_⟩
  unfold minD at q
  split at q
  · rename_i i j
    obtain ⟨v, u, rfl, r1, r2⟩ := r.two
    cases r1; cases r2
    exact .inl ⟨i, j, rfl, PO.ret q s (.int _)⟩
  · obtain ⟨a, ns, d, rfl, h1, e, q⟩ := overL_ok s r q
    split at e
    · rename_i hn
      cases e
      refine .inr ⟨a, ns, rfl, h1, List.length_pos_iff.mpr hn, fun m hm hy => ?_⟩
      obtain ⟨g1, g2⟩ := minI_mem hn
      have e : m = minI ns := Int.le_antisymm (hy _ g1) (g2 m hm)
      rw [e]
      exact PO.ret q s (.int _)
    · cases e
  · exact q.elim
theorem bs_sum (hc : X.calm = true) : CallS X (.builtin "sum") sumD := by
  refine ⟨_, cr_sum hc, fun H α S xs vs Q s r q => ?_⟩
  rcases overL_shape (f := fun ns => some (.int ns.sum)) (xs := xs) (S := S) with ⟨l, rfl⟩ | e
  · obtain ⟨a, ns, d, rfl, h1, e, q⟩ := overL_ok s r q
    cases e
    exact ⟨a, ns, rfl, h1, PO.ret q s (.int _)⟩
  · unfold sumD at q; rw [e] at q; exact q.elim
theorem bs_all (hc : X.calm = true) : CallS X (.builtin "all") allD := by
  refine ⟨_, cr_all hc, fun H α S xs vs Q s r q => ?_⟩
  rcases overB_shape (f := fun bs => .bl (bs.all id)) (xs := xs) (S := S) with ⟨l, rfl⟩ | e
  · obtain ⟨a, ns, rfl, h1, q⟩ := overB_ok s r q
    exact ⟨a, ns, rfl, h1, PO.ret q s (.bl _)⟩
  · unfold allD at q; rw [e] at q; exact q.elim
theorem bs_any (hc : X.calm = true) : CallS X (.builtin "any") anyD := by
  refine ⟨_, cr_any hc, fun H α S xs vs Q s r q => ?_⟩
  rcases overB_shape (f := fun bs => .bl (bs.any id)) (xs := xs) (S := S) with ⟨l, rfl⟩ | e
  · obtain ⟨a, ns, rfl, h1, q⟩ := overB_ok s r q
    exact ⟨a, ns, rfl, h1, PO.ret q s (.bl _)⟩
  · unfold anyD at q; rw [e] at q; exact q.elim
theorem bs_list : CallS X (.type "list") listD := by
  refine ⟨_, call_list_of, fun H α S xs vs Q s r q => ?_⟩
  unfold listD at q
  split at q
  · obtain ⟨v, rfl, rr⟩ := r.one
    cases rr with
    | @tup a us ds t rs => exact ⟨a, us, rfl, .inr (SqT.of t), fun p hp => PO.lst s rs q hp⟩
  · obtain ⟨v, rfl, rr⟩ := r.one
    cases rr with
    | @ref l a ea =>
      split at q
      · rename_i ys e
        obtain ⟨us, h1, rs⟩ := lst_rep s ea e
        exact ⟨a, us, rfl, .inl h1, fun p hp => PO.lst s rs q hp⟩
      · exact q.elim
  · exact q.elim
theorem bs_tuple : CallS X (.type "tuple") tupleD := by
  refine ⟨_, call_tuple_of, fun H α S xs vs Q s r q => ?_⟩
  unfold tupleD at q
  split at q
  · obtain ⟨v, rfl, rr⟩ := r.one
    cases rr with
    | @tup a us ds t rs => exact ⟨a, us, rfl, .inr ⟨SqT.of t, PO.ret q s (.tup t rs)⟩⟩
  · obtain ⟨v, rfl, rr⟩ := r.one
    cases rr with
    | @ref l a ea =>
      split at q
      · rename_i ys e
        obtain ⟨us, h1, rs⟩ := lst_rep s ea e
        exact ⟨a, us, rfl, .inl ⟨h1, fun p hp => PO.tup s rs q hp⟩⟩
      · exact q.elim
  · exact q.elim
theorem bs_repr : CallS X (.builtin "repr") reprD := by
  refine ⟨_, SkE.call_repr_int, fun H α S xs vs Q s r q => ?_⟩
  unfold reprD at q
  split at q
  · rename_i i
    obtain ⟨v, rfl, rr⟩ := r.one
    cases rr
    split at q
    · rename_i hl; exact ⟨i, rfl, hl, PO.ret q s (.str _)⟩
    · exact q.elim
  · exact q.elim
theorem bs_str : CallS X (.type "str") strD := by
  refine ⟨_, callR_or call_str_int SkE.call_str_str, fun H α S xs vs Q s r q => ?_⟩
  unfold strD at q
  split at q
  · rename_i i
    obtain ⟨v, rfl, rr⟩ := r.one
    cases rr
    split at q
    · rename_i hl; exact .inl ⟨i, rfl, hl, PO.ret q s (.str _)⟩
    · exact q.elim
  · obtain ⟨v, rfl, rr⟩ := r.one
    cases rr
    exact .inr ⟨_, rfl, PO.ret q s (.str _)⟩
  · exact q.elim
/-- list(range(..)) -/
def mLrg (a : MA) : ME := fun E S => (a E S).then fun x S1 => match x with
  | [.int n] => if -4611686018427387904 ≤ n ∧ n ≤ 16777216 then .ok (.ref S1.length) (S1 ++ [.lst ((List.range n.toNat).map fun i => .int (i : Nat))]) else .no
  | _ => .no
variable {W : WX} {pos p : Pos} {a b c e : Expr} {es : List Expr} {ml : MA} {m ma mb : ME}
theorem e_listRg {p2 pos2 : Pos} (hc : X.calm = true) (hg : Gl X "list") (hm : X.mg "list" = none) (hg2 : Gl X "range") (hm2 : X.mg "range" = none) (ha : SE X W a ma) (na : starEach [a] X.env = (false, eval a X.env) :: starEach [] X.env := by rfl) (ne : starEach [.Call (.Name "range" p2) [a] [] pos2] X.env = (false, eval (.Call (.Name "range" p2) [a] [] pos2) X.env) :: starEach [] X.env := by rfl) :
    SE X W (.Call (.Name "list" p) [.Call (.Name "range" p2) [a] [] pos2] [] pos) (mLrg (mCons ma mNil)) :=
  PE.imp (pe_listRg hc hg hm (prg_1 hg2 hm2 ha na) ne) fun σ H Q ⟨α, E, S, s, re, h⟩ => by
    have h : PV X.K X.mg H α (fun c d H' => W c d σ H') Q ((ma E S).then fun x S1 => ((mNil E S1).then fun xs S2 => .ok (x :: xs) S2).then fun x S1 => match x with
      | [.int n] => if -4611686018427387904 ≤ n ∧ n ≤ 16777216 then .ok (.ref S1.length) (S1 ++ [.lst ((List.range n.toNat).map fun i => .int (i : Nat))]) else .no
      | _ => .no) := by
      unfold mLrg mCons at h
      cases hr : ma E S with
      | ok x S1 => rw [hr] at h; exact h
      | exc c fs S1 => rw [hr] at h; exact h
      | no => rw [hr] at h; exact h
    refine iE.thenV s re h fun x S1 α1 H1 v p1 s1 re1 r1 h1 => ?_
    cases r1 with
    | int n =>
      have h1 : PV X.K X.mg H1 α1 (fun c d H' => W c d σ H') Q (if -4611686018427387904 ≤ n ∧ n ≤ 16777216 then .ok (.ref S1.length) (S1 ++ [.lst ((List.range n.toNat).map fun i => .int (i : Nat))]) else .no) := h1
      by_cases hn : -4611686018427387904 ≤ n ∧ n ≤ 16777216
      · rw [if_pos hn] at h1
        refine ⟨n, rfl, ⟨by omega, by omega, by omega, by omega, by omega⟩, fun q hq => ?_⟩
        have hs : Reps X.K H1 α1 ((List.range n.toNat).map fun i => D.int (i : Nat)) (rgV 0 n) := by
          unfold rgV
          rw [Int.sub_zero]
          have key : ∀ l : List Nat, Reps X.K H1 α1 (l.map fun i => D.int (i : Nat)) (l.map fun i => V.int (0 + (i : Nat))) := fun l => by
            induction l with
            | nil => exact .nil
            | cons z l ih => exact .cons (by show Rep X.K H1 α1 (D.int z) (V.int (0 + (z : Nat))); rw [Int.zero_add]; exact .int _) ih
          exact key _
        exact PO.lst s1 hs h1 hq
      · rw [if_neg hn] at h1; exact h1.elim
    | _ => exact h1.elim
end
end L3

set_option Elab.async false
set_option linter.all false
set_option maxRecDepth 100000
namespace L3
open PySem PySem.Spec PyProof.Rows L2

/-! ### dicts -/
section
variable {κ : Type} [DecidableEq κ]
def lookD (kvs : List (κ × D)) (k : κ) : Option D := (kvs.find? fun kv => decide (kv.1 = k)).map (·.2)
def putD (kvs : List (κ × D)) (k : κ) (v : D) : List (κ × D) := if (kvs.any fun kv => decide (kv.1 = k)) = true then kvs.map (fun kv => if kv.1 = k then (kv.1, v) else kv) else kvs ++ [(k, v)]
variable {K : PySem.W.Frag} {H : Hp} {α : List Addr}
theorem look_rep {kvs : List (κ × D)} {ks : List (κ × V)} (h : KRep K H α kvs ks) (k : κ) : (∀ d, lookD kvs k = some d → ∃ v, valV ks k = some v ∧ Rep K H α d v) ∧ (lookD kvs k = none → valV ks k = none) := by
  induction h with
  | nil => exact ⟨fun d e => by simp [lookD] at e, fun _ => rfl⟩
  | @cons p q ps qs hp t ih =>
    obtain ⟨e, r⟩ := hp
    by_cases hk : p.1 = k
    · have e1 : lookD (p :: ps) k = some p.2 := by simp [lookD, hk]
      have e2 : valV (q :: qs) k = some q.2 := valV_pos (e ▸ hk)
      rw [e1]
      exact ⟨fun d e => by cases e; exact ⟨_, e2, r⟩, fun z => nomatch z⟩
    · have e1 : lookD (p :: ps) k = lookD ps k := by simp [lookD, hk]
      have e2 : valV (q :: qs) k = valV qs k := valV_neg (e ▸ hk)
      rw [e1, e2]
      exact ih
theorem any_rep {kvs : List (κ × D)} {ks : List (κ × V)} (h : KRep K H α kvs ks) (k : κ) : (kvs.any fun kv => decide (kv.1 = k)) = ks.any fun kv => decide (kv.1 = k) := by
  induction h with
  | nil => rfl
  | @cons p q ps qs hp t ih => rw [List.any_cons, List.any_cons, ih, hp.1]
theorem map_rep {kvs : List (κ × D)} {ks : List (κ × V)} {d : D} {v : V} (h : KRep K H α kvs ks) (r : Rep K H α d v) (k : κ) :
    KRep K H α (kvs.map fun kv => if kv.1 = k then (kv.1, d) else kv) (ks.map fun kv => if kv.1 = k then (kv.1, v) else kv) := by
  induction h with
  | nil => exact .nil
  | @cons p q ps qs hp t ih =>
    refine .cons ?_ ih
    obtain ⟨e, r'⟩ := hp
    by_cases hk : p.1 = k
    · have hk' : q.1 = k := e ▸ hk
      show (if p.1 = k then (p.1, d) else p).1 = (if q.1 = k then (q.1, v) else q).1 ∧ Rep K H α (if p.1 = k then (p.1, d) else p).2 (if q.1 = k then (q.1, v) else q).2
      rw [if_pos hk, if_pos hk']
      exact ⟨e, r⟩
    · have hk' : ¬ q.1 = k := e ▸ hk
      show (if p.1 = k then (p.1, d) else p).1 = (if q.1 = k then (q.1, v) else q).1 ∧ Rep K H α (if p.1 = k then (p.1, d) else p).2 (if q.1 = k then (q.1, v) else q).2
      rw [if_neg hk, if_neg hk']
      exact ⟨e, r'⟩
theorem KRep.app {kvs : List (κ × D)} {ks : List (κ × V)} {d : D} {v : V} {k : κ} (h : KRep K H α kvs ks) (r : Rep K H α d v) : KRep K H α (kvs ++ [(k, d)]) (ks ++ [(k, v)]) := by
  induction h with
  | nil => exact .cons ⟨rfl, r⟩ .nil
  | cons hp t ih => exact .cons hp ih
theorem put_rep {kvs : List (κ × D)} {ks : List (κ × V)} {d : D} {v : V} (h : KRep K H α kvs ks) (r : Rep K H α d v) (k : κ) : KRep K H α (putD kvs k d) (putK ks k v) := by
  unfold putD putK
  rw [any_rep h k]
  by_cases hk : (ks.any fun kv => decide (kv.1 = k)) = true
  · rw [if_pos hk, if_pos hk]; exact map_rep h r k
  · rw [if_neg hk, if_neg hk]; exact h.app r
theorem KRep.length {kvs : List (κ × D)} {ks : List (κ × V)} (h : KRep K H α kvs ks) : kvs.length = ks.length := Paired.length h
end
def keyK? : D → Option Key
  | .int i => some (.inl i)
  | .str x => some (.inr x)
  | _ => none
def keysK? : List D → Option (List Key)
  | [] => some []
  | d :: r => match keyK? d, keysK? r with
    | some k, some ks => some (k :: ks)
    | _, _ => none
def keyT? : D → Option (List Key)
  | .tup ds => keysK? ds
  | _ => none
section
variable {K : PySem.W.Frag} {H : Hp} {α : List Addr} {S : Store}
theorem keyK_rep {d : D} {v : V} {k : Key} (r : Rep K H α d v) (h : keyK? d = some k) : v = kV k := by
  cases r <;> simp only [keyK?, Option.some.injEq] at h <;> first | (subst h; rfl) | cases h
theorem keysK_rep : ∀ {ds : List D} {vs : List V} {ks : List Key}, Reps K H α ds vs → keysK? ds = some ks → vs = ks.map kV
  | [], _, _, .nil, h => by simp only [keysK?, Option.some.injEq] at h; subst h; rfl
  | d :: ds, _, ks, .cons r rs, h => by
    simp only [keysK?] at h
    split at h
    · rename_i k ks' e1 e2
      cases h
      rw [keyK_rep r e1, keysK_rep rs e2]; rfl
    · cases h
theorem keyT_rep {d : D} {v : V} {k : List Key} (r : Rep K H α d v) (h : keyT? d = some k) : ∃ b, v = .ref b ∧ H b = some (.tup (k.map kV)) := by
  cases r with
  | @tup a vs ds t rs =>
    have e := keysK_rep rs h
    subst e
    exact ⟨a, rfl, t⟩
  | _ => simp [keyT?] at h
end
/-- d[k], the key there -/
def dgetO (o : D) (k : D) (S : Store) : Option (Option D) := match o with
  | .ref l => match S[l]? with
    | some (.dk kvs) => (keyK? k).map fun k => lookD kvs k
    | some (.dt kvs) => (keyT? k).map fun k => lookD kvs k
    | _ => none
  | _ => none
def dgetD : F2 := fun o k S => match dgetO o k S with
  | some (some d) => some (d, S)
  | _ => none
def dget2D (o k x : D) (S : Store) : Option (D × Store) := match dgetO o k S with
  | some (some d) => some (d, S)
  | some none => some (x, S)
  | none => none
theorem dget_ok {K : PySem.W.Frag} {H : Hp} {α : List Addr} {S : Store} {o k : D} {vo vk : V} {r : Option D} (s : Sim K H α S) (ro : Rep K H α o vo) (rk : Rep K H α k vk) (h : dgetO o k S = some r) :
    ∃ a, vo = .ref a ∧ IsD H a ∧ ∃ w, DGet H a vk w ∧ (∀ d, r = some d → ∃ v, w = some v ∧ Rep K H α d v) ∧ (r = none → w = none) := by
  cases ro with
  | @ref l a ea =>
    simp only [dgetO] at h
    split at h
    · rename_i kvs e1
      obtain ⟨ks, h1, rel⟩ := s.obj _ _ _ e1 ea
      rw [Option.map_eq_some_iff] at h
      obtain ⟨kk, e2, rfl⟩ := h
      have := keyK_rep rk e2
      subst this
      exact ⟨a, rfl, .inl ⟨ks, .inl h1⟩, _, DGet.k h1, look_rep rel kk⟩
    · rename_i kvs e1
      obtain ⟨ks, h1, rel⟩ := s.obj _ _ _ e1 ea
      rw [Option.map_eq_some_iff] at h
      obtain ⟨kk, e2, rfl⟩ := h
      obtain ⟨b, rfl, hb⟩ := keyT_rep rk e2
      exact ⟨a, rfl, .inr ⟨ks, .inl h1⟩, _, DGet.t h1 hb, look_rep rel kk⟩
    · cases h
  | _ => simp [dgetO] at h
def fDt : ME := fun _ S => .ok (.ref S.length) (S ++ [.dt []])
def fDk : ME := fun _ S => .ok (.ref S.length) (S ++ [.dk []])
/-! ### stores -/
/-- o[i] = v -/
def setD (o i v : D) (S : Store) : Option Store := match o with
  | .ref l => match S[l]? with
    | some (.lst xs) => match i with
      | .int k => (ixN xs.length k).map fun j => S.set l (.lst (xs.set j v))
      | _ => none
    | some (.dk kvs) => if kvs.length < 16777216 then (keyK? i).map fun k => S.set l (.dk (putD kvs k v)) else none
    | some (.dt kvs) => if kvs.length < 16777216 then (keyT? i).map fun k => S.set l (.dt (putD kvs k v)) else none
    | _ => none
  | _ => none
def sSub (o i v : ME) : MS := fun E S => (v E S).thenS E fun x S1 => (o E S1).thenS E fun y S2 => (i E S2).thenS E fun z S3 => match setD y z x S3 with
  | some S4 => .nx E S4
  | none => .no
theorem set_ok {X : Cx} {H : Hp} {α : List Addr} {S S' : Store} {o i v : D} {vo vi vv : V} (s : Sim X.K H α S) (ro : Rep X.K H α o vo) (ri : Rep X.K H α i vi) (rv : Rep X.K H α v vv) (h : setD o i v S = some S') :
    (∃ p xs k j, vo = .ref p ∧ vi = .int k ∧ H p = some (.lst xs) ∧ ixN xs.length k = some j ∧ Stp α H α (upd H p (.lst (xs.set j vv))) ∧ Sim X.K (upd H p (.lst (xs.set j vv))) α S') ∨
    (∃ a H', vo = .ref a ∧ DPut H a vi vv H' ∧ Stp α H α H' ∧ Sim X.K H' α S') := by
  cases ro with
  | @ref l a ea =>
    simp only [setD] at h
    split at h
    · rename_i xs e1
      obtain ⟨vs, h1, rs⟩ := s.lst e1 ea
      split at h
      · rename_i k
        cases ri
        rw [Option.map_eq_some_iff] at h
        obtain ⟨j, e2, rfl⟩ := h
        refine .inl ⟨a, vs, k, j, rfl, rfl, h1, by rw [← rs.length]; exact e2, Stp.write ea, ?_⟩
        have g : Grow X.K H (upd H a (.lst (vs.set j vv))) := grow_upd h1 trivial
        exact s.write ea _ g ⟨_, upd_same, (rs.set rv j).mono g Pre.refl⟩
      · cases h
    · rename_i kvs e1
      obtain ⟨ks, h1, rel⟩ := s.obj _ _ _ e1 ea
      split at h
      · rename_i hl
        rw [Option.map_eq_some_iff] at h
        obtain ⟨k, e2, rfl⟩ := h
        have := keyK_rep ri e2
        subst this
        have g : Grow X.K H (upd H a (.dK (putK ks k vv))) := grow_upd h1 trivial
        refine .inr ⟨a, _, rfl, DPut.k h1 (by rw [sizeLine_eq, ← rel.length]; exact hl), Stp.write ea, s.write ea _ g ⟨_, upd_same, KRep.mono g Pre.refl (put_rep rel rv k)⟩⟩
      · cases h
    · rename_i kvs e1
      obtain ⟨ks, h1, rel⟩ := s.obj _ _ _ e1 ea
      split at h
      · rename_i hl
        rw [Option.map_eq_some_iff] at h
        obtain ⟨k, e2, rfl⟩ := h
        obtain ⟨b, rfl, hb⟩ := keyT_rep ri e2
        have g : Grow X.K H (upd H a (.dT (putK ks k vv))) := grow_upd h1 trivial
        refine .inr ⟨a, _, rfl, DPut.t h1 hb (by rw [sizeLine_eq, ← rel.length]; exact hl), Stp.write ea, s.write ea _ g ⟨_, upd_same, KRep.mono g Pre.refl (put_rep rel rv k)⟩⟩
      · cases h
    · cases h
  | _ => simp [setD] at h
theorem pset_or {X : Cx} {t u : TSet} (h : PSet X t) (h' : PSet X u) : PSet X fun o i v H Q => t o i v H Q ∨ u o i v H Q := by
  intro pins s σ H o i v ov iv x Q I r1 r2 r3 q
  rcases q with q | q
  · exact h pins s σ H o i v ov iv x Q I r1 r2 r3 q
  · exact h' pins s σ H o i v ov iv x Q I r1 r2 r3 q
section
variable {X : Cx} {W : WX} {pos tpos : Pos} {o i v e : Expr} {mo mi mv m : ME}
theorem s_sub (hu : X.A.units + 1 < cLine) (ho : SE X W o mo) (hi : SE X W i mi) (hv : SE X W v mv) (hs : swapsWithSole [.Subscript o i tpos] v pos.line X.env = pure false := by rfl) (hw : swappedStores [.Subscript o i tpos] v X.env = pure none := by rfl)
    (h1 : (assignEach [.Subscript o i tpos] X.env).map (·.2) = [assign (.Subscript o i tpos) X.env] := by rfl)
    (ha : ∀ v, assign (.Subscript o i tpos) X.env v = (do
      let ov ← holding [v] (eval o X.env)
      let iv ← holding [v, ov] (eval i X.env)
      standAt tpos
      holding [v, ov, iv] (setItem ov iv v)
      release [v, ov, iv] []) := by intro _; rfl) : SS X W (.Assign [.Subscript o i tpos] v pos) (sSub mo mi mv) :=
  PS.imp (ps_asg hv (pg_sub ho hi (pset_or set_list (set_dict hu)) ha) hs hw h1) fun DD σ H ⟨α, E, S, s, re, h⟩ => by
    refine iE.thenR s re h fun x S1 α1 H1 vv p1 s1 re1 r1 q1 => ?_
    refine iE.thenR s1 re1 q1 fun y S2 α2 H2 vo p2 s2 re2 r2 q2 => ?_
    refine iE.thenR s2 re2 q2 fun z S3 α3 H3 vi p3 s3 re3 r3 q3 => ?_
    cases e : setD y z x S3 with
    | none => rw [e] at q3; exact q3.elim
    | some S4 =>
      rw [e] at q3
      have g12 := (r1.mono (p2.grow s1) p2.pre).mono (p3.grow s2) p3.pre
      have g2 := r2.mono (p3.grow s2) p3.pre
      rcases set_ok s3 g2 r3 g12 e with ⟨p, xs, k, j, a1, a2, a3, a4, a5, a6⟩ | ⟨a, H', a1, a2, a3, a4⟩
      · exact .inl ⟨p, xs, k, j, a1, a2, a3, a4, q3 α3 _ σ a5 a6 (re3.mono (a5.grow s3) a5.pre)⟩
      · exact .inr ⟨a, H', a1, a2, q3 α3 _ σ a3 a4 (re3.mono (a3.grow s3) a3.pre)⟩
theorem e_dt : SE X W (.Dict [] [] pos) fDt := PE.imp pe_dnewT fun σ H Q ⟨α, E, S, s, re, h⟩ => fun p hp =>
  h (α ++ [p]) _ (.ref p) (Stp.push hp) (s.push hp _ ⟨[], upd_same, .nil⟩) (.ref (by rw [← s.len]; simp))
theorem e_dk : SE X W (.Dict [] [] pos) fDk := PE.imp pe_dnewK fun σ H Q ⟨α, E, S, s, re, h⟩ => fun p hp =>
  h (α ++ [p]) _ (.ref p) (Stp.push hp) (s.push hp _ ⟨[], upd_same, .nil⟩) (.ref (by rw [← s.len]; simp))
theorem e_dget (hu : X.A.units + 1 < cLine) (ho : SE X W o mo) (hi : SE X W i mi) (hs : NoSl i := by exact fun _ _ => rfl) : SE X W (.Subscript o i pos) (mOp dgetD mo mi) :=
  PE.imp (pe_dget hu ho hi hs) fun σ H Q ⟨α, E, S, s, re, h⟩ => by
    refine iE.thenV s re h fun x S1 α1 H1 vo p1 s1 re1 r1 q1 => ?_
    refine iE.thenV s1 re1 q1 fun y S2 α2 H2 vk p2 s2 re2 r2 q2 => ?_
    have q2 := q2.of
    simp only [dgetD] at q2
    cases e : dgetO x y S2 with
    | none => rw [e] at q2; exact q2.elim
    | some r =>
      rw [e] at q2
      cases r with
      | none => exact q2.elim
      | some d =>
        obtain ⟨a, ea, _, w, g, q1', _⟩ := dget_ok s2 (r1.mono (p2.grow s1) p2.pre) r2 e
        obtain ⟨v, ew, rv⟩ := q1' d rfl
        exact ⟨a, v, ea, by rw [← ew]; exact g, PO.ret q2 s2 rv⟩
end

/-! ### methods of built-in types -/
def tyD (T : String) (x : D) (S : Store) : Bool := match x with
  | .str _ => T == "str"
  | .int _ => T == "int"
  | .ref l => match S[l]? with
    | some (.lst _) => T == "list"
    | some (.dk _) => T == "dict"
    | some (.dt _) => T == "dict"
    | _ => false
  | _ => false
theorem tyD_ok {K : PySem.W.Frag} {H : Hp} {α : List Addr} {S : Store} {T : String} {x : D} {v : V} (s : Sim K H α S) (r : Rep K H α x v) (h : tyD T x S = true) : tyV K T v H := by
  cases r with
  | str z => show T = "str"; simpa [tyD] using h
  | int z => show T = "int"; simpa [tyD] using h
  | @ref l a ea =>
    simp only [tyD] at h
    split at h
    · rename_i xs e
      obtain ⟨vs, q, _⟩ := sq_later ea Stp.refl s e
      exact .inl ⟨by simpa using h, vs, q⟩
    · rename_i xs e
      obtain ⟨ks, q, _⟩ := s.obj _ _ _ e ea
      exact .inr (.inr (.inl ⟨by simpa using h, .inl ⟨ks, q⟩⟩))
    · rename_i xs e
      obtain ⟨ks, q, _⟩ := s.obj _ _ _ e ea
      exact .inr (.inr (.inl ⟨by simpa using h, .inr ⟨ks, q⟩⟩))
    · cases h
  | _ => simp [tyD] at h
def mMt (T : String) (f : D → FL) (o : ME) (a : MA) : ME := fun E S => (o E S).then fun x S1 => if tyD T x S1 then (a E S1).then fun xs S2 => Res.of (f x xs S2) else .no
section
variable {X : Cx} {W : WX} {pos apos cpos : Pos} {o i v e : Expr} {es : List Expr} {mo mi mv m : ME} {ml : MA} {T id : String} {name : Str} {f : D → FL}
theorem e_mt0 (pa : PlainAttrs T) (slot : Slot T name id) (hty : typeOf (.builtin id) = pure (.type "method_descriptor")) (hm : MtS X id f) (ho : SE X W o mo)
    (hbase : attributeBase o name X.env (eval o X.env) = eval o X.env := by rfl) (hline : (apos.endLine == cpos.line) = true := by rfl) : SE X W (.Call (.Attribute o name apos) [] [] cpos) (mMt T f mo mNil) :=
  let ⟨r, h1, h2⟩ := hm
  PE.imp (pe_bm0 pa slot hty h1 ho hbase hline) fun σ H Q ⟨α, E, S, s, re, h⟩ => by
    refine iE.thenV s re h fun x S1 α1 H1 vo p1 s1 re1 r1 q1 => ?_
    by_cases ht : tyD T x S1 = true
    · rw [if_pos ht] at q1
      exact ⟨tyD_ok s1 r1 ht, h2 H1 α1 S1 x [] vo [] Q s1 r1 .nil (PV.of q1)⟩
    · rw [if_neg ht] at q1; exact q1.elim
theorem e_mt (pa : PlainAttrs T) (slot : Slot T name id) (hty : typeOf (.builtin id) = pure (.type "method_descriptor")) (hm : MtS X id f) (ho : SE X W o mo) (ha : SA X W (e :: es) ml)
    (hbase : attributeBase o name X.env (eval o X.env) = eval o X.env := by rfl)
    (hfew : ((backTo cpos (starEach (e :: es) X.env)).all (fun x => !x.1) && (backToKw cpos (keywordEach [] X.env)).all (fun x => x.1.isSome)
      && decide ((e :: es).length + ([] : List Keyword).length + (if ([] : List Keyword).isEmpty then 0 else 1) < 30)) = true := by rfl)
    (hline : (apos.endLine == cpos.line) = true := by rfl) (hs : starEach (e :: es) X.env = (false, eval e X.env) :: starEach es X.env := by rfl) (hplain : (backTo cpos (starEach es X.env)).any (·.1) = false := by rfl) :
    SE X W (.Call (.Attribute o name apos) (e :: es) [] cpos) (mMt T f mo ml) :=
  let ⟨r, h1, h2⟩ := hm
  PE.imp (pe_bm pa slot hty h1 ho ha hbase hfew hline hs hplain) fun σ H Q ⟨α, E, S, s, re, h⟩ => by
    refine iE.thenV s re h fun x S1 α1 H1 vo p1 s1 re1 r1 q1 => ?_
    by_cases ht : tyD T x S1 = true
    · rw [if_pos ht] at q1
      refine ⟨tyD_ok s1 r1 ht, iA.thenV s1 re1 q1 fun xs S2 α2 H2 vs p2 s2 re2 r2 q2 => ?_⟩
      exact h2 H2 α2 S2 x xs vo vs Q s2 (r1.mono (p2.grow s1) p2.pre) r2 q2.of
    · rw [if_neg ht] at q1; exact q1.elim
end
def appendD : D → FL
  | .ref l, [y], S => match S[l]? with
    | some (.lst xs) => if xs.length < 16777216 then some (.non, S.set l (.lst (xs ++ [y]))) else none
    | _ => none
  | _, _, _ => none
def extendD : D → FL
  | .ref l, [.ref b], S => match S[l]?, S[b]? with
    | some (.lst xs), some (.lst ys) => if xs.length + ys.length ≤ 16777216 then some (.non, S.set l (.lst (xs ++ ys))) else none
    | _, _ => none
  | _, _, _ => none
def popD : D → FL
  | .ref l, [], S => match S[l]? with
    | some (.lst xs) => (xs[xs.length - 1]?).map fun y => (y, S.set l (.lst xs.dropLast))
    | _ => none
  | _, _, _ => none
/-- d.setdefault(k, x), the keys tuples -/
def setdefD : D → FL
  | .ref l, [k, x], S => match S[l]? with
    | some (.dt kvs) => if kvs.length < 16777216 then (match keyT? k with
      | some k => match lookD kvs k with
        | some v => some (v, S)
        | none => some (x, S.set l (.dt (putD kvs k x)))
      | none => none) else none
    | _ => none
  | _, _, _ => none
section
variable {K : PySem.W.Frag} {H : Hp} {α : List Addr} {S : Store}
/-- a list of the store is written -/
theorem PO.wr {x : D} {w : V} {l : Nat} {a : Addr} {vs : List V} {xs : List D} {us : List V} {Q : VK} (s : Sim K H α S) (ea : α[l]? = some a) (h1 : H a = some (.lst us)) (r : Reps K H α xs vs) (rx : ∀ H', Rep K H' α x w) (h : PO K H α Q (some (x, S.set l (.lst xs)))) : Q w (upd H a (.lst vs)) := by
  have g : Grow K H (upd H a (.lst vs)) := grow_upd h1 trivial
  exact h α _ w (Stp.write ea) (s.write ea _ g ⟨_, upd_same, r.mono g Pre.refl⟩) (rx _)
theorem Reps.dropLast : ∀ {ds : List D} {vs : List V}, Reps K H α ds vs → Reps K H α ds.dropLast vs.dropLast
  | [], _, .nil => .nil
  | [d], _, .cons r .nil => .nil
  | d :: e :: ds, _, .cons r (.cons r2 rs) => .cons r (Reps.dropLast (.cons r2 rs))
end
def rSdT : V → List V → Hp → VK → Prop := fun x xs H Q => ∃ (a : Addr) (kvs : List (List L2.Key × V)) (k : List L2.Key) (b : Addr) (d : V), x = .ref a ∧ xs = [.ref b, d] ∧ H a = some (.dT kvs) ∧ H b = some (.tup (k.map kV)) ∧ kvs.length < sizeLine ∧
  (∀ v, valV kvs k = some v → Q v H) ∧ (valV kvs k = none → Q d (upd H a (.dT (putK kvs k d))))
section
variable {X : Cx}
theorem mt_setdefT (hu : X.A.units + 1 < cLine) : MtR X "dict.setdefault" rSdT := by
  intro pins s σ H x xs v us Q I rx rxs h
  obtain ⟨a, kvs, k, b, d, rfl, rfl, ha, hb, hl, q1, q2⟩ := h
  cases rx
  obtain ⟨u1, u2, rfl, r1, r2⟩ := vals2 rxs
  cases r1
  obtain ⟨z, hd, xs', rel, dd⟩ := dt_of I.hok ha
  have hz : xs'.length ≤ sizeLine := by rw [← Paired.length rel]; exact z
  refine call_setdefault_heap (hsz := hz) (tupleKind_room_in1 hu) (key_of I.hok hb) hd dd (fun p hp => ?_) fun hn h' dd' hs => ?_
  · have r := rel.val k
    rw [hp] at r
    obtain ⟨v0, ev, rv⟩ : ∃ v0, valV kvs k = some v0 ∧ RelV v0 p.2 := by
      cases ev : valV kvs k with
      | none => rw [ev] at r; exact (show False from r).elim
      | some v0 => rw [ev] at r; exact ⟨v0, rfl, r⟩
    exact ⟨v0, H, I.tok _, rv, q1 v0 ev⟩
  · have r := rel.val k
    rw [hn] at r
    have e : valV kvs k = none := by
      cases ev : valV kvs k with
      | none => rfl
      | some v0 => rw [ev] at r; exact (show False from r).elim
    obtain ⟨o, es, ep, hq, h2, h3, h4, _, h5⟩ := dd'
    have hl' : (putK kvs k d).length ≤ sizeLine := by have := length_putK kvs k d; omega
    refine ⟨d, _, d_write (ob := .dT (putK kvs k d)) I (by rw [ha]; exact True.intro) hs ⟨o, hq⟩ ⟨hl', hd, _, (rel.put k hb r2).keeps (fun c ys ec => ?_), o, es, ep, hq, h2, h3, h4, h5⟩, r2, q2 e⟩
    rw [upd_ne (ne_of ec ha (fun z => nomatch z))]
    exact ec
theorem ms_append : MtS X "list.append" appendD := by
  refine ⟨_, mt_append, fun H α S x xs v vs Q s rx rs q => ?_⟩
  unfold appendD at q
  split at q
  · rename_i l y
    obtain ⟨w, rfl, rw'⟩ := rs.one
    cases rx with
    | @ref l a ea =>
      split at q
      · rename_i ys e
        obtain ⟨us, h1, r1⟩ := s.lst e ea
        split at q
        · rename_i hl
          exact ⟨a, us, w, rfl, rfl, h1, by rw [sizeLine_eq, ← r1.length]; exact hl, PO.wr s ea h1 (r1.append (.cons rw' .nil)) (fun _ => .non) q⟩
        · exact q.elim
      · exact q.elim
  · exact q.elim
theorem ms_extend : MtS X "list.extend" extendD := by
  refine ⟨_, mt_extend, fun H α S x xs v vs Q s rx rs q => ?_⟩
  unfold extendD at q
  split at q
  · rename_i l b
    obtain ⟨w, rfl, rw'⟩ := rs.one
    cases rx with
    | @ref l a ea =>
      cases rw' with
      | @ref b c eb =>
        split at q
        · rename_i ys zs e e2
          obtain ⟨us, h1, r1⟩ := s.lst e ea
          obtain ⟨ws, h2, r2⟩ := s.lst e2 eb
          split at q
          · rename_i hl
            exact ⟨a, c, us, ws, rfl, rfl, h1, h2, by rw [sizeLine_eq, ← r1.length, ← r2.length]; exact hl, PO.wr s ea h1 (r1.append r2) (fun _ => .non) q⟩
          · exact q.elim
        · exact q.elim
  · exact q.elim
theorem ms_pop : MtS X "list.pop" popD := by
  refine ⟨_, mt_pop, fun H α S x xs v vs Q s rx rs q => ?_⟩
  unfold popD at q
  split at q
  · rename_i l
    cases rs
    cases rx with
    | @ref l a ea =>
      split at q
      · rename_i ys e
        obtain ⟨us, h1, r1⟩ := s.lst e ea
        cases e2 : ys[ys.length - 1]? with
        | none => rw [e2] at q; exact q.elim
        | some y =>
          rw [e2] at q
          obtain ⟨w, e3, rw'⟩ := r1.get e2
          refine ⟨a, us, w, rfl, rfl, h1, by rw [← r1.length]; exact e3, ?_⟩
          have g : Grow X.K H (upd H a (.lst us.dropLast)) := grow_upd h1 trivial
          exact q α _ w (Stp.write ea) (s.write ea _ g ⟨_, upd_same, (r1.dropLast).mono g Pre.refl⟩) (rw'.mono g Pre.refl)
      · exact q.elim
  · exact q.elim
theorem ms_setdef (hu : X.A.units + 1 < cLine) : MtS X "dict.setdefault" setdefD := by
  refine ⟨_, mt_setdefT hu, fun H α S x xs v vs Q s rx rs q => ?_⟩
  unfold setdefD at q
  split at q
  · rename_i l k y
    obtain ⟨vk, vy, rfl, rk, ry⟩ := rs.two
    cases rx with
    | @ref l a ea =>
      split at q
      · rename_i kvs e
        obtain ⟨ks, h1, rel⟩ := s.obj _ _ _ e ea
        split at q
        · rename_i hl
          split at q
          · rename_i kk ek
            obtain ⟨b, rfl, hb⟩ := keyT_rep rk ek
            refine ⟨a, ks, kk, b, vy, rfl, rfl, h1, hb, by rw [sizeLine_eq, ← rel.length]; exact hl, fun w hw => ?_, fun hw => ?_⟩
            · have z := look_rep rel kk
              cases el : lookD kvs kk with
              | none => have z2 := z.2 el; rw [hw] at z2; cases z2
              | some d =>
                rw [el] at q
                obtain ⟨w2, e2, r2⟩ := z.1 d el
                rw [hw] at e2; cases e2
                exact PO.ret q s r2
            · have z := look_rep rel kk
              cases el : lookD kvs kk with
              | some d => obtain ⟨w2, e2, r2⟩ := z.1 d el; rw [hw] at e2; cases e2
              | none =>
                rw [el] at q
                have g : Grow X.K H (upd H a (.dT (putK ks kk vy))) := grow_upd h1 trivial
                exact q α _ vy (Stp.write ea) (s.write ea _ g ⟨_, upd_same, KRep.mono g Pre.refl (put_rep rel ry kk)⟩) (ry.mono g Pre.refl)
          · exact q.elim
        · exact q.elim
      · exact q.elim
  · exact q.elim
end
end L3

set_option Elab.async false
set_option linter.all false
set_option maxRecDepth 100000
namespace L3
open PySem PySem.Spec PyProof.Rows L2

/-! ### isinstance -/
def kindD : D → Store → Option String
  | .non, _ => some "NoneType"
  | .bl _, _ => some "bool"
  | .int _, _ => some "int"
  | .str _, _ => some "str"
  | .tup _, _ => some "tuple"
  | .ref l, S => match S[l]? with
    | some (.lst _) => some "list"
    | some (.dk _) => some "dict"
    | some (.dt _) => some "dict"
    | none => none
  | .scr _, _ => none
def kinds : List String := ["NoneType", "bool", "int", "str", "tuple", "list", "dict"]
def tyNames : List String := ["int", "bool", "str", "tuple", "list", "dict"]
def kitK (k T : String) : Option Bool := if tyNames.contains T then some (k == T || (k == "bool" && T == "int")) else none
theorem kitK_ok : ∀ k ∈ kinds, ∀ T ∈ tyNames, kitB k T = kitK k T := by decide +kernel
def kitKs (k : String) : List String → Option Bool
  | [] => some false
  | T :: r => match kitK k T with
    | some true => some true
    | some false => kitKs k r
    | none => none
theorem kindD_ok {K : PySem.W.Frag} {H : Hp} {α : List Addr} {S : Store} {x : D} {v : V} {k : String} (s : Sim K H α S) (r : Rep K H α x v) (h : kindD x S = some k) : k ∈ kinds ∧ TyX K H v (.type k) := by
  cases r with
  | non => cases h; exact ⟨by decide, .base .non⟩
  | bl b => cases h; exact ⟨by decide, .base (.bl b)⟩
  | int i => cases h; exact ⟨by decide, .base (.int i)⟩
  | str y => cases h; exact ⟨by decide, .base (.str y)⟩
  | @tup a vs ds t rs => cases h; exact ⟨by decide, .base (.tup t)⟩
  | @ref l a ea =>
    simp only [kindD] at h
    split at h
    · rename_i xs e
      cases h
      obtain ⟨vs, q, _⟩ := s.lst e ea
      exact ⟨by decide, .base (.lst q)⟩
    · rename_i xs e
      cases h
      obtain ⟨ks, q, _⟩ := s.obj _ _ _ e ea
      exact ⟨by decide, .base (.dK q)⟩
    · rename_i xs e
      cases h
      obtain ⟨ks, q, _⟩ := s.obj _ _ _ e ea
      exact ⟨by decide, .base (.dT q)⟩
    · cases h
  | scr hs => cases h
theorem kitK_kit {K : PySem.W.Frag} {k T : String} {b : Bool} (hk : k ∈ kinds) (h : kitK k T = some b) : PySem.W.kitOne K (.type k) (.type T) = some b := by
  have hT : T ∈ tyNames := by
    unfold kitK at h
    split at h
    · rename_i q; simpa using q
    · cases h
  exact kit_ty ((kitK_ok k hk T hT).trans h)
theorem kitKs_kit {K : PySem.W.Frag} {k : String} (hk : k ∈ kinds) : ∀ {Ts : List String} {b : Bool}, kitKs k Ts = some b → PySem.W.kitAny K (.type k) (Ts.map Value.type) = some b
  | [], b, h => by simp only [kitKs, Option.some.injEq] at h; subst h; exact kitAny_nil
  | T :: r, b, h => by
    simp only [kitKs] at h
    split at h
    · rename_i e
      cases h
      exact kitAny_cons (kitK_kit hk e) (fun z => nomatch z) fun _ => rfl
    · rename_i e
      exact kitAny_cons (kitK_kit hk e) (fun _ => kitKs_kit hk h) fun z => nomatch z
    · cases h
theorem boot_isi : bootBuiltins "isinstance" = some (.builtin "isinstance") := by decide +kernel
theorem clsv_all : ∀ ns : List String, Paired ClsV (ns.map V.ty) (ns.map Value.type)
  | [] => .nil
  | n :: ns => .cons (.ty n) (clsv_all ns)
def mIsi (Ts : List String) (a : ME) : ME := fun E S => (a E S).then fun x S1 => match kindD x S1 with
  | some k => (match kitKs k Ts with
    | some b => .ok (.bl b) S1
    | none => .no)
  | none => .no
section
variable {X : Cx} {W : WX} {pos p : Pos} {e : Expr} {m : ME}
/-- isinstance(x, T) -/
theorem e_isi {T : Str} {n : String} {tp : Pos} (hg : Gl X "isinstance") (hm : X.mg "isinstance" = none) (hgT : Gl X T) (hmT : X.mg T = none) (hvT : bootBuiltins T = some (.type n)) (he : SE X W e m) (hnT : T ≠ "__name__" := by decide) (hdT : (T == ("__debug__" : Str)) = false := by decide)
    (h1 : starEach [e, .Name T tp] X.env = (false, eval e X.env) :: starEach [.Name T tp] X.env := by rfl) (h2 : starEach [.Name T tp] X.env = (false, eval (.Name T tp) X.env) :: starEach [] X.env := by rfl) (hpl : (backTo pos (starEach [.Name T tp] X.env)).any (·.1) = false := by rfl) :
    SE X W (.Call (.Name "isinstance" p) [e, .Name T tp] [] pos) (mIsi [n] m) := by
  have hT : PE X (.Name T tp) (tC (.ty n)) := pe_bltn hgT hmT hvT rfl hnT hdT
  refine PE.imp (pe_callB call_isi hg hm boot_isi (pa_cons he (pa_cons hT pa_nil h2) h1) (by decide) (by decide) h1 hpl) fun σ H Q ⟨α, E, S, s, re, h⟩ => ?_
  refine iE.thenV s re h fun x S1 α1 H1 v p1 s1 re1 r1 q1 => ?_
  cases ek : kindD x S1 with
  | none => rw [ek] at q1; exact q1.elim
  | some k =>
    rw [ek] at q1
    simp only at q1
    cases eb : kitKs k [n] with
    | none => rw [eb] at q1; exact q1.elim
    | some b =>
      rw [eb] at q1
      obtain ⟨hk, ty⟩ := kindD_ok s1 r1 ek
      have e1 : kitK k n = some b := by
        simp only [kitKs] at eb
        split at eb <;> rename_i z
        · cases eb; exact z
        · cases eb; exact z
        · cases eb
      exact ⟨v, .ty n, .type k, .type n, b, rfl, .ty n, ty, kitK_kit hk e1, q1.ret s1 (.bl b)⟩
/-- the names of types in a tuple -/
inductive TyNames (X : Cx) : List Expr → List String → Prop where
  | nil : TyNames X [] []
  | cons {T : Str} {n : String} {tp : Pos} {es : List Expr} {ns : List String} (hgT : Gl X T) (hmT : X.mg T = none) (hvT : bootBuiltins T = some (.type n)) (r : TyNames X es ns) (hnT : T ≠ "__name__" := by decide) (hdT : (T == ("__debug__" : Str)) = false := by decide)
    (h : starEach (.Name T tp :: es) X.env = (false, eval (.Name T tp) X.env) :: starEach es X.env := by rfl) : TyNames X (.Name T tp :: es) (n :: ns)
theorem TyNames.pa {es : List Expr} {ns : List String} (h : TyNames X es ns) : PA X es (fun _ H Q => Q (ns.map V.ty) H) := by
  induction h with
  | nil => exact PA.imp pa_nil fun σ H Q q => q
  | cons hgT hmT hvT r hnT hdT h ih => exact PA.imp (pa_cons (pe_bltn (v := .ty _) hgT hmT hvT rfl hnT hdT) ih h) fun σ H Q q => q
theorem e_isiT {es : List Expr} {ns : List String} {k : Nat} {tp : Pos} (hg : Gl X "isinstance") (hm : X.mg "isinstance" = none) (hT : TyNames X es ns) (hl : ns.length ≤ 16777216) (he : SE X W e m)
    (h1 : starEach [e, .Tuple es k tp] X.env = (false, eval e X.env) :: starEach [.Tuple es k tp] X.env := by rfl) (h2 : starEach [.Tuple es k tp] X.env = (false, eval (.Tuple es k tp) X.env) :: starEach [] X.env := by rfl) (hpl : (backTo pos (starEach [.Tuple es k tp] X.env)).any (·.1) = false := by rfl) :
    SE X W (.Call (.Name "isinstance" p) [e, .Tuple es k tp] [] pos) (mIsi ns m) := by
  refine PE.imp (pe_callB call_isiT hg hm boot_isi (pa_cons he (pa_cons (pe_tup hT.pa) pa_nil h2) h1) (by decide) (by decide) h1 hpl) fun σ H Q ⟨α, E, S, s, re, h⟩ => ?_
  refine iE.thenV s re h fun x S1 α1 H1 v p1 s1 re1 r1 q1 => ⟨by rw [List.length_map, sizeLine_eq]; exact hl, fun q hq => ?_⟩
  cases ek : kindD x S1 with
  | none => rw [ek] at q1; exact q1.elim
  | some k =>
    rw [ek] at q1
    simp only at q1
    cases eb : kitKs k ns with
    | none => rw [eb] at q1; exact q1.elim
    | some b =>
      rw [eb] at q1
      have s2 := s1.fresh (o := .tup (ns.map V.ty)) hq
      have r2 := r1.mono (grow_new (o := .tup (ns.map V.ty)) hq) Pre.refl
      obtain ⟨hk, ty⟩ := kindD_ok s2 r2 ek
      exact ⟨v, q, ns.map V.ty, .type k, ns.map Value.type, b, rfl, upd_same, clsv_all ns, ty, kitKs_kit hk eb, q1 α1 _ _ (Stp.fresh hq) s2 (.bl b)⟩
end
end L3
namespace L3
open PySem PySem.Spec PyProof.Rows L2
theorem boot_len : bootBuiltins "len" = some (.builtin "len") := by decide +kernel
theorem boot_max : bootBuiltins "max" = some (.builtin "max") := by decide +kernel
theorem boot_min : bootBuiltins "min" = some (.builtin "min") := by decide +kernel
theorem boot_sum : bootBuiltins "sum" = some (.builtin "sum") := by decide +kernel
theorem boot_all : bootBuiltins "all" = some (.builtin "all") := by decide +kernel
theorem boot_any : bootBuiltins "any" = some (.builtin "any") := by decide +kernel
theorem boot_repr : bootBuiltins "repr" = some (.builtin "repr") := by decide +kernel
theorem boot_int : bootBuiltins "int" = some (.type "int") := by decide +kernel
theorem boot_bool : bootBuiltins "bool" = some (.type "bool") := by decide +kernel
theorem boot_str : bootBuiltins "str" = some (.type "str") := by decide +kernel
theorem boot_list : bootBuiltins "list" = some (.type "list") := by decide +kernel
theorem boot_tuple : bootBuiltins "tuple" = some (.type "tuple") := by decide +kernel
theorem boot_dict : bootBuiltins "dict" = some (.type "dict") := by decide +kernel
theorem hu64_of {A : Around} {k : Nat} (hr : Room k A) : A.units + 64 < cLine := hr.units
end L3

set_option Elab.async false
set_option linter.all false
set_option maxRecDepth 100000
namespace L3
open PySem PySem.Spec PyProof.Rows L2

/-! ### the end of a law -/
theorem def_mk {K : PySem.W.Frag} {h : Heap} {mg : Str → Option Value} {x : Str} {st : Stmt} {ps : List Str} {f : Addr} {oc : Value} {od an : Option Addr} {osl : Array (Option Value)} {kV doc pm cdv ct : Value} (X : K.In h) (G : h.Ns mainGlobals mg)
    (a : PySem.W.nsIn K mainGlobals x = some (some (.ref f))) (l : K.lookup f = some ⟨oc, od, .func (PySem.W.fnOf x x (defArgs st) (defBody st) (defScope st) .none kV doc pm an cdv ct), osl⟩)
    (c : PySem.W.codeIn K cdv x = true) (k : PySem.W.keepIn K (.ref f) = true)
    (hb : ∀ (kV doc pm : Value) (an : Option Addr) (cdv ct : Value) (us : List Value), us.length = ps.length → bindArgs (PySem.W.fnOf x x (defArgs st) (defBody st) (defScope st) .none kV doc pm an cdv ct) ⟨us, []⟩ = pure (ps.zip us)) :
    ∃ f fd, mg x = some (.ref f) ∧ Fun K x x st f fd ∧ BindA fd ps :=
  have F := fun_mk (st := st) l c k
  ⟨f, _, PySem.W.mg_of X G a, F, fun _ us hl => .of_eq (hb _ _ _ _ _ _ us hl)⟩
/-- the law's promise: at a script of so many numbers it answers True -/
def spLaw (K : PySem.W.Frag) : Sp := fun vs H Q _ => ∃ (a : Addr) (ns : List Int), vs = [.ref a] ∧ ScrAt K H a ns ∧ ns.length ≤ 63 ∧ (∀ z ∈ ns, Builtin.Int.intBits z ≤ 1048576) ∧ ∀ H', Q (.bl true) H'
theorem spLaw_start {K : PySem.W.Frag} {H : Hp} {a : Addr} {ns : List Int} (hl : ns.length ≤ 63) (hb : ∀ z ∈ ns, Builtin.Int.intBits z ≤ 1048576) (hO : Only H) (hS : SqL K H a (ns.map V.int)) : spLaw K [.ref a] H (fun v _ => v = .bl true) fun _ _ _ => False := by
  refine ⟨a, ns, rfl, ?_, hl, hb, fun _ => rfl⟩
  rcases hS with (h | ⟨o, h⟩) | h
  · rcases hO a with z | ⟨o, xs, z⟩
    · rw [z] at h; cases h
    · rw [z] at h; cases h
  · exact .inl ⟨o, h⟩
  · exact .inr fun H' => .inr h
theorem cx_false {P : Program} {w : World} {l : List PySem.Env} {H : Hp} {s : Shared} {e : Value} {s' : Shared} (h : L2.CX P w l H s (fun _ _ _ => False) e s') : False := by
  obtain ⟨_, _, _, _, _, _, _, _, _, _, _, _, h⟩ := h
  exact h
theorem spLaw_run {K : PySem.W.Frag} {mg : Str → Option Value} {F : FN} (hF : ∀ ns : List Int, ns.length ≤ 63 → (∀ z ∈ ns, Builtin.Int.intBits z ≤ 1048576) → ∃ S, F [.scr ns] [] = .ok (.bl true) S) {vs : List V} {H : Hp} {Q : VK} {E : XK} (h : spLaw K vs H Q E) : spF K mg 1 F vs H Q E := by
  obtain ⟨a, ns, rfl, hs, hl, hb, q⟩ := h
  obtain ⟨S, e⟩ := hF ns hl hb
  refine ⟨[], [.scr ns], [], Sim.empty, .cons (.scr hs) .nil, rfl, ?_⟩
  rw [e]
  intro α' H' v _ _ r
  cases r
  exact q H'
end L3

set_option Elab.async false
set_option linter.all false
set_option maxRecDepth 100000
set_option maxHeartbeats 4000000
namespace K68
open PySem PySem.Spec PyProof.Rows L2 L3
/-! ### the text by places -/
def top (i : Nat) : Stmt := PySem.Challenge.pw_treelore_k68_whole_few_new_ties.main.body.getD i (.Pass ⟨0, 0, 0, 0⟩)
abbrev st_count_of : Stmt := top 8
abbrev N_count_of : List Str := ["tie"]
theorem sc_count_of : FnScope N_count_of ["tie"] (defScope st_count_of) := ⟨rfl, rfl, rfl, by decide +kernel, rfl, by decide +kernel, by decide +kernel⟩
abbrev st_tie_over : Stmt := top 9
abbrev N_tie_over : List Str := ["left", "item", "right"]
theorem sc_tie_over : FnScope N_tie_over ["left", "item", "right"] (defScope st_tie_over) := ⟨rfl, rfl, rfl, by decide +kernel, rfl, by decide +kernel, by decide +kernel⟩
abbrev st_are_even : Stmt := top 10
abbrev N_are_even : List Str := ["one", "other"]
theorem sc_are_even : FnScope N_are_even ["one", "other"] (defScope st_are_even) := ⟨rfl, rfl, rfl, by decide +kernel, rfl, by decide +kernel, by decide +kernel⟩
abbrev st_is_even_top : Stmt := top 11
abbrev N_is_even_top : List Str := ["left", "right"]
theorem sc_is_even_top : FnScope N_is_even_top ["left", "right"] (defScope st_is_even_top) := ⟨rfl, rfl, rfl, by decide +kernel, rfl, by decide +kernel, by decide +kernel⟩
abbrev st_by_halves : Stmt := top 12
abbrev N_by_halves : List Str := ["items", "middle"]
theorem sc_by_halves : FnScope N_by_halves ["items"] (defScope st_by_halves) := ⟨rfl, rfl, rfl, by decide +kernel, rfl, by decide +kernel, by decide +kernel⟩
abbrev st_turned_left : Stmt := top 13
abbrev N_turned_left : List Str := ["left", "item", "right", "inner", "other", "outer", "count", "begin", "middle", "end", "many"]
theorem sc_turned_left : FnScope N_turned_left ["left", "item", "right"] (defScope st_turned_left) := ⟨rfl, rfl, rfl, by decide +kernel, rfl, by decide +kernel, by decide +kernel⟩
abbrev st_turned_right : Stmt := top 14
abbrev N_turned_right : List Str := ["left", "item", "right", "outer", "other", "inner", "count", "begin", "middle", "end", "many"]
theorem sc_turned_right : FnScope N_turned_right ["left", "item", "right"] (defScope st_turned_right) := ⟨rfl, rfl, rfl, by decide +kernel, rfl, by decide +kernel, by decide +kernel⟩
abbrev st_evened : Stmt := top 15
abbrev N_evened : List Str := ["left", "item", "right"]
theorem sc_evened : FnScope N_evened ["left", "item", "right"] (defScope st_evened) := ⟨rfl, rfl, rfl, by decide +kernel, rfl, by decide +kernel, by decide +kernel⟩
abbrev st_linked : Stmt := top 16
abbrev N_linked : List Str := ["left", "item", "right", "outer", "other", "inner", "count"]
theorem sc_linked : FnScope N_linked ["left", "item", "right"] (defScope st_linked) := ⟨rfl, rfl, rfl, by decide +kernel, rfl, by decide +kernel, by decide +kernel⟩
abbrev st_with_more : Stmt := top 17
abbrev N_with_more : List Str := ["tie", "at", "new", "left", "item", "right", "count"]
theorem sc_with_more : FnScope N_with_more ["tie", "at", "new"] (defScope st_with_more) := ⟨rfl, rfl, rfl, by decide +kernel, rfl, by decide +kernel, by decide +kernel⟩
abbrev st_without_first : Stmt := top 18
abbrev N_without_first : List Str := ["tie", "left", "item", "right", "count", "first", "others"]
theorem sc_without_first : FnScope N_without_first ["tie"] (defScope st_without_first) := ⟨rfl, rfl, rfl, by decide +kernel, rfl, by decide +kernel, by decide +kernel⟩
abbrev st_one_behind : Stmt := top 19
abbrev N_one_behind : List Str := ["one", "other", "first", "others"]
theorem sc_one_behind : FnScope N_one_behind ["one", "other"] (defScope st_one_behind) := ⟨rfl, rfl, rfl, by decide +kernel, rfl, by decide +kernel, by decide +kernel⟩
abbrev st_without_item : Stmt := top 20
abbrev N_without_item : List Str := ["tie", "at", "left", "item", "right", "count", "first", "others"]
theorem sc_without_item : FnScope N_without_item ["tie", "at"] (defScope st_without_item) := ⟨rfl, rfl, rfl, by decide +kernel, rfl, by decide +kernel, by decide +kernel⟩
abbrev st_cut_at : Stmt := top 21
abbrev N_cut_at : List Str := ["tie", "at", "left", "item", "right", "count", "begin", "end"]
theorem sc_cut_at : FnScope N_cut_at ["tie", "at"] (defScope st_cut_at) := ⟨rfl, rfl, rfl, by decide +kernel, rfl, by decide +kernel, by decide +kernel⟩
abbrev st_is_plain : Stmt := top 25
abbrev N_is_plain : List Str := ["thing"]
theorem sc_is_plain : FnScope N_is_plain ["thing"] (defScope st_is_plain) := ⟨rfl, rfl, rfl, by decide +kernel, rfl, by decide +kernel, by decide +kernel⟩
abbrev st_is_item : Stmt := top 26
abbrev N_is_item : List Str := ["thing", "one"]
theorem sc_is_item : FnScope N_is_item ["thing"] (defScope st_is_item) := ⟨rfl, rfl, rfl, by decide +kernel, rfl, by decide +kernel, by decide +kernel⟩
abbrev st_told_count : Stmt := top 27
abbrev N_told_count : List Str := ["thing"]
theorem sc_told_count : FnScope N_told_count ["thing"] (defScope st_told_count) := ⟨rfl, rfl, rfl, by decide +kernel, rfl, by decide +kernel, by decide +kernel⟩
abbrev st_is_even_of : Stmt := top 28
abbrev N_is_even_of : List Str := ["thing", "count", "counts", "left", "item", "right", "told"]
theorem sc_is_even_of : FnScope N_is_even_of ["thing", "count"] (defScope st_is_even_of) := ⟨rfl, rfl, rfl, by decide +kernel, rfl, by decide +kernel, by decide +kernel⟩
abbrev st_is_even : Stmt := top 29
abbrev N_is_even : List Str := ["thing"]
theorem sc_is_even : FnScope N_is_even ["thing"] (defScope st_is_even) := ⟨rfl, rfl, rfl, by decide +kernel, rfl, by decide +kernel, by decide +kernel⟩
abbrev st_look_tie : Stmt := top 30
abbrev N_look_tie : List Str := ["thing"]
theorem sc_look_tie : FnScope N_look_tie ["thing"] (defScope st_look_tie) := ⟨rfl, rfl, rfl, by decide +kernel, rfl, by decide +kernel, by decide +kernel⟩
abbrev st_look_item : Stmt := top 31
abbrev N_look_item : List Str := ["tie", "at", "most"]
theorem sc_look_item : FnScope N_look_item ["tie", "at", "most"] (defScope st_look_item) := ⟨rfl, rfl, rfl, by decide +kernel, rfl, by decide +kernel, by decide +kernel⟩
abbrev st_tied : Stmt := top 32
abbrev N_tied : List Str := ["items", "item"]
theorem sc_tied : FnScope N_tied ["items"] (defScope st_tied) := ⟨rfl, rfl, rfl, by decide +kernel, rfl, by decide +kernel, by decide +kernel⟩
abbrev st_put_at : Stmt := top 33
abbrev N_put_at : List Str := ["tie", "at", "item"]
theorem sc_put_at : FnScope N_put_at ["tie", "at", "item"] (defScope st_put_at) := ⟨rfl, rfl, rfl, by decide +kernel, rfl, by decide +kernel, by decide +kernel⟩
abbrev st_out_at : Stmt := top 34
abbrev N_out_at : List Str := ["tie", "at"]
theorem sc_out_at : FnScope N_out_at ["tie", "at"] (defScope st_out_at) := ⟨rfl, rfl, rfl, by decide +kernel, rfl, by decide +kernel, by decide +kernel⟩
abbrev st_parted : Stmt := top 35
abbrev N_parted : List Str := ["tie", "at"]
theorem sc_parted : FnScope N_parted ["tie", "at"] (defScope st_parted) := ⟨rfl, rfl, rfl, by decide +kernel, rfl, by decide +kernel, by decide +kernel⟩
abbrev st_tied_both : Stmt := top 36
abbrev N_tied_both : List Str := ["one", "other"]
theorem sc_tied_both : FnScope N_tied_both ["one", "other"] (defScope st_tied_both) := ⟨rfl, rfl, rfl, by decide +kernel, rfl, by decide +kernel, by decide +kernel⟩
abbrev st_steps_of : Stmt := top 37
abbrev N_steps_of : List Str := ["many", "found", "left"]
theorem sc_steps_of : FnScope N_steps_of ["many"] (defScope st_steps_of) := ⟨rfl, rfl, rfl, by decide +kernel, rfl, by decide +kernel, by decide +kernel⟩
abbrev st_number_tie : Stmt := top 38
abbrev N_number_tie : List Str := ["tie", "numbers", "spot", "left", "item", "right", "count"]
theorem sc_number_tie : FnScope N_number_tie ["tie", "numbers"] (defScope st_number_tie) := ⟨rfl, rfl, rfl, by decide +kernel, rfl, by decide +kernel, by decide +kernel⟩
abbrev st_fresh : Stmt := top 39
abbrev N_fresh : List Str := ["tie", "some", "one", "numbers", "elder"]
theorem sc_fresh : FnScope N_fresh ["tie", "some"] (defScope st_fresh) := ⟨rfl, rfl, rfl, by decide +kernel, rfl, by decide +kernel, by decide +kernel⟩
abbrev st__law_take : Stmt := top 41
abbrev N__law_take : List Str := ["_law_state", "_law_below", "_law_cell", "_law_found"]
theorem sc__law_take : FnScope N__law_take ["_law_state", "_law_below"] (defScope st__law_take) := ⟨rfl, rfl, rfl, by decide +kernel, rfl, by decide +kernel, by decide +kernel⟩
abbrev st__law_count : Stmt := top 42
abbrev N__law_count : List Str := ["_law_tie"]
theorem sc__law_count : FnScope N__law_count ["_law_tie"] (defScope st__law_count) := ⟨rfl, rfl, rfl, by decide +kernel, rfl, by decide +kernel, by decide +kernel⟩
abbrev st__law_over : Stmt := top 43
abbrev N__law_over : List Str := ["_law_left", "_law_item", "_law_right"]
theorem sc__law_over : FnScope N__law_over ["_law_left", "_law_item", "_law_right"] (defScope st__law_over) := ⟨rfl, rfl, rfl, by decide +kernel, rfl, by decide +kernel, by decide +kernel⟩
abbrev st__law_made : Stmt := top 44
abbrev N__law_made : List Str := ["_law_state", "_law_items", "_law_many", "_law_least", "_law_middle"]
theorem sc__law_made : FnScope N__law_made ["_law_state", "_law_items"] (defScope st__law_made) := ⟨rfl, rfl, rfl, by decide +kernel, rfl, by decide +kernel, by decide +kernel⟩
abbrev st__law_number : Stmt := top 45
abbrev N__law_number : List Str := ["_law_tie", "_law_numbers", "_law_spot"]
theorem sc__law_number : FnScope N__law_number ["_law_tie", "_law_numbers"] (defScope st__law_number) := ⟨rfl, rfl, rfl, by decide +kernel, rfl, by decide +kernel, by decide +kernel⟩
abbrev st__law_deep : Stmt := top 46
abbrev N__law_deep : List Str := ["_law_tie"]
theorem sc__law_deep : FnScope N__law_deep ["_law_tie"] (defScope st__law_deep) := ⟨rfl, rfl, rfl, by decide +kernel, rfl, by decide +kernel, by decide +kernel⟩
abbrev st__law_new : Stmt := top 47
abbrev N__law_new : List Str := ["_law_tie", "_law_some", "_law_numbers", "_law_one", "_law_elder"]
theorem sc__law_new : FnScope N__law_new ["_law_tie", "_law_some"] (defScope st__law_new) := ⟨rfl, rfl, rfl, by decide +kernel, rfl, by decide +kernel, by decide +kernel⟩
abbrev st__law_is_cheap : Stmt := top 48
abbrev N__law_is_cheap : List Str := ["_law_made_here", "_law_some", "_law_count_here", "_law_tie", "_law_new_here", "_law_most", "_law_one"]
theorem sc__law_is_cheap : FnScope N__law_is_cheap ["_law_made_here", "_law_some"] (defScope st__law_is_cheap) := ⟨rfl, rfl, rfl, by decide +kernel, rfl, by decide +kernel, by decide +kernel⟩
abbrev st_law : Stmt := top 49
abbrev N_law : List Str := ["_law_script", "_law_state", "_law_many", "_law_tie", "_law_turn", "_law_road", "_law_count_here", "_law_at", "_law_both", "_law_made_here"]
theorem sc_law : FnScope N_law ["_law_script"] (defScope st_law) := ⟨rfl, rfl, rfl, by decide +kernel, rfl, by decide +kernel, by decide +kernel⟩
/-! ### the terms -/
def m_count_of (F : Nat → FN) : MS :=
    (sSeq (sIf (mBl (mOp isD (mVar 0) (mC .non)))
    (sRet (mC (.int 0)))
    sNil)
    (sRet (mOp ixD (mVar 0) (mC (.int 3)))))
def m_tie_over (F : Nat → FN) : MS :=
    (sRet (mFn fTup (mCons (mVar 0) (mCons (mVar 1) (mCons (mVar 2) (mCons (mOp addD (mOp addD (mCallP (F 0) (mCons (mVar 0) mNil)) (mC (.int 1))) (mCallP (F 0) (mCons (mVar 2) mNil))) mNil))))))
def m_are_even (F : Nat → FN) : MS :=
    (sRet (mAnd (mOp leD (mOp addD (mVar 0) (mC (.int 1))) (mOp mulD (mC (.int 3)) (mOp addD (mVar 1) (mC (.int 1))))) (mOp leD (mOp addD (mVar 1) (mC (.int 1))) (mOp mulD (mC (.int 3)) (mOp addD (mVar 0) (mC (.int 1)))))))
def m_is_even_top (F : Nat → FN) : MS :=
    (sRet (mCallP (F 2) (mCons (mCallP (F 0) (mCons (mVar 0) mNil)) (mCons (mCallP (F 0) (mCons (mVar 1) mNil)) mNil))))
def m_by_halves (F : Nat → FN) : MS :=
    (sSeq (sIf (mBl (mOp eqD (mVar 0) (mFn fLst mNil)))
    (sRet (mC .non))
    sNil)
    (sSeq (sSet 1 (mOp divD (mFn lenD (mCons (mVar 0) mNil)) (mC (.int 2))))
    (sRet (mCallP (F 1) (mCons (mCall (F 4) (mCons (mSl (mVar 0) mON (mOS (mVar 1))) mNil)) (mCons (mOp ixD (mVar 0) (mVar 1)) (mCons (mCall (F 4) (mCons (mSl (mVar 0) (mOS (mOp addD (mVar 1) (mC (.int 1)))) mON) mNil)) mNil)))))))
def m_turned_left (F : Nat → FN) : MS :=
    (sSeq (sAsg (gT 4 (gsCons (gN 3) (gsCons (gN 4) (gsCons (gN 5) (gsCons (gN 6) gsNil))))) (mVar 2))
    (sSeq (sIf (mAndT (mTru (mCallP (F 2) (mCons (mCallP (F 0) (mCons (mVar 0) mNil)) (mCons (mCallP (F 0) (mCons (mVar 3) mNil)) mNil)))) (mTru (mCallP (F 2) (mCons (mOp addD (mOp addD (mCallP (F 0) (mCons (mVar 0) mNil)) (mC (.int 1))) (mCallP (F 0) (mCons (mVar 3) mNil))) (mCons (mCallP (F 0) (mCons (mVar 5) mNil)) mNil)))))
    (sRet (mCallP (F 1) (mCons (mCallP (F 1) (mCons (mVar 0) (mCons (mVar 1) (mCons (mVar 3) mNil)))) (mCons (mVar 4) (mCons (mVar 5) mNil)))))
    sNil)
    (sSeq (sAsg (gT 4 (gsCons (gN 7) (gsCons (gN 8) (gsCons (gN 9) (gsCons (gN 10) gsNil))))) (mVar 3))
    (sRet (mCallP (F 1) (mCons (mCallP (F 1) (mCons (mVar 0) (mCons (mVar 1) (mCons (mVar 7) mNil)))) (mCons (mVar 8) (mCons (mCallP (F 1) (mCons (mVar 9) (mCons (mVar 4) (mCons (mVar 5) mNil)))) mNil))))))))
def m_turned_right (F : Nat → FN) : MS :=
    (sSeq (sAsg (gT 4 (gsCons (gN 3) (gsCons (gN 4) (gsCons (gN 5) (gsCons (gN 6) gsNil))))) (mVar 0))
    (sSeq (sIf (mAndT (mTru (mCallP (F 2) (mCons (mCallP (F 0) (mCons (mVar 2) mNil)) (mCons (mCallP (F 0) (mCons (mVar 5) mNil)) mNil)))) (mTru (mCallP (F 2) (mCons (mOp addD (mOp addD (mCallP (F 0) (mCons (mVar 2) mNil)) (mC (.int 1))) (mCallP (F 0) (mCons (mVar 5) mNil))) (mCons (mCallP (F 0) (mCons (mVar 3) mNil)) mNil)))))
    (sRet (mCallP (F 1) (mCons (mVar 3) (mCons (mVar 4) (mCons (mCallP (F 1) (mCons (mVar 5) (mCons (mVar 1) (mCons (mVar 2) mNil)))) mNil)))))
    sNil)
    (sSeq (sAsg (gT 4 (gsCons (gN 7) (gsCons (gN 8) (gsCons (gN 9) (gsCons (gN 10) gsNil))))) (mVar 5))
    (sRet (mCallP (F 1) (mCons (mCallP (F 1) (mCons (mVar 3) (mCons (mVar 4) (mCons (mVar 7) mNil)))) (mCons (mVar 8) (mCons (mCallP (F 1) (mCons (mVar 9) (mCons (mVar 1) (mCons (mVar 2) mNil)))) mNil))))))))
def m_evened (F : Nat → FN) : MS :=
    (sSeq (sIf (mTru (mCallP (F 3) (mCons (mVar 0) (mCons (mVar 2) mNil))))
    (sRet (mCallP (F 1) (mCons (mVar 0) (mCons (mVar 1) (mCons (mVar 2) mNil)))))
    sNil)
    (sSeq (sIf (mBl (mOp ltD (mCallP (F 0) (mCons (mVar 0) mNil)) (mCallP (F 0) (mCons (mVar 2) mNil))))
    (sRet (mCallP (F 5) (mCons (mVar 0) (mCons (mVar 1) (mCons (mVar 2) mNil)))))
    sNil)
    (sRet (mCallP (F 6) (mCons (mVar 0) (mCons (mVar 1) (mCons (mVar 2) mNil)))))))
def m_linked (F : Nat → FN) : MS :=
    (sSeq (sIf (mTru (mCallP (F 3) (mCons (mVar 0) (mCons (mVar 2) mNil))))
    (sRet (mCallP (F 1) (mCons (mVar 0) (mCons (mVar 1) (mCons (mVar 2) mNil)))))
    sNil)
    (sSeq (sIf (mBl (mOp ltD (mCallP (F 0) (mCons (mVar 0) mNil)) (mCallP (F 0) (mCons (mVar 2) mNil))))
    (sSeq (sAsg (gT 4 (gsCons (gN 5) (gsCons (gN 4) (gsCons (gN 3) (gsCons (gN 6) gsNil))))) (mVar 2))
    (sRet (mCallP (F 7) (mCons (mCallP (F 8) (mCons (mVar 0) (mCons (mVar 1) (mCons (mVar 5) mNil)))) (mCons (mVar 4) (mCons (mVar 3) mNil))))))
    sNil)
    (sSeq (sAsg (gT 4 (gsCons (gN 3) (gsCons (gN 4) (gsCons (gN 5) (gsCons (gN 6) gsNil))))) (mVar 0))
    (sRet (mCallP (F 7) (mCons (mVar 3) (mCons (mVar 4) (mCons (mCallP (F 8) (mCons (mVar 5) (mCons (mVar 1) (mCons (mVar 2) mNil)))) mNil))))))))
def m_with_more (F : Nat → FN) : MS :=
    (sSeq (sIf (mBl (mOp isD (mVar 0) (mC .non)))
    (sRet (mCallP (F 1) (mCons (mC .non) (mCons (mVar 2) (mCons (mC .non) mNil)))))
    sNil)
    (sSeq (sAsg (gT 4 (gsCons (gN 3) (gsCons (gN 4) (gsCons (gN 5) (gsCons (gN 6) gsNil))))) (mVar 0))
    (sSeq (sIf (mBl (mOp leD (mVar 1) (mCallP (F 0) (mCons (mVar 3) mNil))))
    (sRet (mCallP (F 7) (mCons (mCallP (F 9) (mCons (mVar 3) (mCons (mVar 1) (mCons (mVar 2) mNil)))) (mCons (mVar 4) (mCons (mVar 5) mNil)))))
    sNil)
    (sRet (mCallP (F 7) (mCons (mVar 3) (mCons (mVar 4) (mCons (mCallP (F 9) (mCons (mVar 5) (mCons (mOp subD (mOp subD (mVar 1) (mCallP (F 0) (mCons (mVar 3) mNil))) (mC (.int 1))) (mCons (mVar 2) mNil)))) mNil))))))))
def m_without_first (F : Nat → FN) : MS :=
    (sSeq (sAsg (gT 4 (gsCons (gN 1) (gsCons (gN 2) (gsCons (gN 3) (gsCons (gN 4) gsNil))))) (mVar 0))
    (sSeq (sIf (mBl (mOp isD (mVar 1) (mC .non)))
    (sRet (mFn fTup (mCons (mVar 2) (mCons (mVar 3) mNil))))
    sNil)
    (sSeq (sAsg (gT 2 (gsCons (gN 5) (gsCons (gN 6) gsNil))) (mCallP (F 10) (mCons (mVar 1) mNil)))
    (sRet (mFn fTup (mCons (mVar 5) (mCons (mCallP (F 7) (mCons (mVar 6) (mCons (mVar 2) (mCons (mVar 3) mNil)))) mNil)))))))
def m_one_behind (F : Nat → FN) : MS :=
    (sSeq (sIf (mBl (mOp isD (mVar 1) (mC .non)))
    (sRet (mVar 0))
    sNil)
    (sSeq (sAsg (gT 2 (gsCons (gN 2) (gsCons (gN 3) gsNil))) (mCallP (F 10) (mCons (mVar 1) mNil)))
    (sRet (mCallP (F 8) (mCons (mVar 0) (mCons (mVar 2) (mCons (mVar 3) mNil)))))))
def m_without_item (F : Nat → FN) : MS :=
    (sSeq (sAsg (gT 4 (gsCons (gN 2) (gsCons (gN 3) (gsCons (gN 4) (gsCons (gN 5) gsNil))))) (mVar 0))
    (sSeq (sIf (mBl (mOp ltD (mVar 1) (mCallP (F 0) (mCons (mVar 2) mNil))))
    (sRet (mCallP (F 7) (mCons (mCallP (F 12) (mCons (mVar 2) (mCons (mVar 1) mNil))) (mCons (mVar 3) (mCons (mVar 4) mNil)))))
    sNil)
    (sSeq (sIf (mBl (mOp gtD (mVar 1) (mCallP (F 0) (mCons (mVar 2) mNil))))
    (sRet (mCallP (F 7) (mCons (mVar 2) (mCons (mVar 3) (mCons (mCallP (F 12) (mCons (mVar 4) (mCons (mOp subD (mOp subD (mVar 1) (mCallP (F 0) (mCons (mVar 2) mNil))) (mC (.int 1))) mNil))) mNil)))))
    sNil)
    (sSeq (sIf (mOrT (mBl (mOp isD (mVar 2) (mC .non))) (mBl (mOp isD (mVar 4) (mC .non))))
    (sRet (mOr (mVar 2) (mVar 4)))
    sNil)
    (sSeq (sAsg (gT 2 (gsCons (gN 6) (gsCons (gN 7) gsNil))) (mCallP (F 10) (mCons (mVar 4) mNil)))
    (sRet (mCallP (F 7) (mCons (mVar 2) (mCons (mVar 6) (mCons (mVar 7) mNil))))))))))
def m_cut_at (F : Nat → FN) : MS :=
    (sSeq (sIf (mBl (mOp isD (mVar 0) (mC .non)))
    (sRet (mFn fTup (mCons (mC .non) (mCons (mC .non) mNil))))
    sNil)
    (sSeq (sAsg (gT 4 (gsCons (gN 2) (gsCons (gN 3) (gsCons (gN 4) (gsCons (gN 5) gsNil))))) (mVar 0))
    (sSeq (sIf (mBl (mOp leD (mVar 1) (mCallP (F 0) (mCons (mVar 2) mNil))))
    (sSeq (sAsg (gT 2 (gsCons (gN 6) (gsCons (gN 7) gsNil))) (mCallP (F 13) (mCons (mVar 2) (mCons (mVar 1) mNil))))
    (sRet (mFn fTup (mCons (mVar 6) (mCons (mCallP (F 8) (mCons (mVar 7) (mCons (mVar 3) (mCons (mVar 4) mNil)))) mNil)))))
    sNil)
    (sSeq (sAsg (gT 2 (gsCons (gN 6) (gsCons (gN 7) gsNil))) (mCallP (F 13) (mCons (mVar 4) (mCons (mOp subD (mOp subD (mVar 1) (mCallP (F 0) (mCons (mVar 2) mNil))) (mC (.int 1))) mNil))))
    (sRet (mFn fTup (mCons (mCallP (F 8) (mCons (mVar 2) (mCons (mVar 3) (mCons (mVar 6) mNil)))) (mCons (mVar 7) mNil))))))))
def m_is_plain (F : Nat → FN) : MS :=
    (sRet (mAnd (mIsi ["int", "str"] (mVar 0)) (mNot (mIsi ["bool"] (mVar 0)))))
def m_is_item (F : Nat → FN) : MS :=
    (sSeq (sIf (mTru (mIsi ["tuple"] (mVar 0)))
    (sRet (mAnd (mOp leD (mFn lenD (mCons (mVar 0) mNil)) (mC (.int 8))) (mFn allD (mCons (mComp 20000000 (iVal (mVar 0)) (gN 1) mYes (mCallP (F 14) (mCons (mVar 1) mNil)) [1]) mNil))))
    sNil)
    (sRet (mCallP (F 14) (mCons (mVar 0) mNil))))
def m_told_count (F : Nat → FN) : MS :=
    (sSeq (sIf (mBl (mOp isD (mVar 0) (mC .non)))
    (sRet (mC (.int 0)))
    sNil)
    (sSeq (sIf (mOrT (mNotT (mTru (mIsi ["tuple"] (mVar 0)))) (mOrT (mBl (mOp neD (mFn lenD (mCons (mVar 0) mNil)) (mC (.int 4)))) (mOrT (mNotT (mTru (mIsi ["int"] (mOp ixD (mVar 0) (mC (.int 3)))))) (mTru (mIsi ["bool"] (mOp ixD (mVar 0) (mC (.int 3))))))))
    (sRet (mUn negD (mC (.int 1))))
    sNil)
    (sRet (mFn maxD (mCons (mUn negD (mC (.int 1))) (mCons (mOp ixD (mVar 0) (mC (.int 3))) mNil))))))
def m_is_even_of (F : Nat → FN) : MS :=
    (sSeq (sIf (mBl (mOp eqD (mVar 1) (mC (.int 0))))
    (sRet (mOp isD (mVar 0) (mC .non)))
    sNil)
    (sSeq (sAsg (gT 4 (gsCons (gN 3) (gsCons (gN 4) (gsCons (gN 5) (gsCons (gN 6) gsNil))))) (mVar 0))
    (sSeq (sSet 2 (mFn fLst (mCons (mCallP (F 16) (mCons (mVar 3) mNil)) (mCons (mCallP (F 16) (mCons (mVar 5) mNil)) mNil))))
    (sSeq (sIf (mOrT (mBl (mOp ltD (mFn minD (mCons (mVar 2) mNil)) (mC (.int 0)))) (mOrT (mBl (mOp neD (mOp addD (mFn sumD (mCons (mVar 2) mNil)) (mC (.int 1))) (mVar 1))) (mOrT (mNotT (mTru (mCallP (F 2) (mCons (mOp ixD (mVar 2) (mC (.int 0))) (mCons (mOp ixD (mVar 2) (mC (.int 1))) mNil))))) (mNotT (mTru (mCallP (F 15) (mCons (mVar 4) mNil)))))))
    (sRet (mC (.bl false)))
    sNil)
    (sRet (mAnd (mCallP (F 17) (mCons (mVar 3) (mCons (mOp ixD (mVar 2) (mC (.int 0))) mNil))) (mCallP (F 17) (mCons (mVar 5) (mCons (mOp ixD (mVar 2) (mC (.int 1))) mNil)))))))))
def m_is_even (F : Nat → FN) : MS :=
    (sRet (mAnd (mChain leD leD (mC (.int 0)) (mCallP (F 16) (mCons (mVar 0) mNil)) (mC (.int 1000))) (mCallP (F 17) (mCons (mVar 0) (mCons (mCallP (F 16) (mCons (mVar 0) mNil)) mNil)))))
def m_look_tie (F : Nat → FN) : MS :=
    (sIf (mNotT (mTru (mCallP (F 18) (mCons (mVar 0) mNil))))
    sNo
    sNil)
def m_look_item (F : Nat → FN) : MS :=
    (sIf (mOrT (mNotT (mTru (mIsi ["int"] (mVar 1)))) (mOrT (mTru (mIsi ["bool"] (mVar 1))) (mNotT (mBl (mChain leD leD (mC (.int 0)) (mVar 1) (mVar 2))))))
    sNo
    sNil)
def m_tied (F : Nat → FN) : MS :=
    (sSeq (sIf (mOrT (mNotT (mTru (mIsi ["list", "tuple"] (mVar 0)))) (mOrT (mBl (mOp gtD (mFn lenD (mCons (mVar 0) mNil)) (mC (.int 1000)))) (mNotT (mTru (mFn allD (mCons (mComp 20000000 (iLst (mVar 0)) (gN 1) mYes (mCallP (F 15) (mCons (mVar 1) mNil)) [1]) mNil))))))
    sNo
    sNil)
    (sRet (mCall (F 4) (mCons (mFn listD (mCons (mVar 0) mNil)) mNil))))
def m_put_at (F : Nat → FN) : MS :=
    (sSeq (sExp (mCallP (F 19) (mCons (mVar 0) mNil)))
    (sSeq (sExp (mCallP (F 20) (mCons (mVar 0) (mCons (mVar 1) (mCons (mCallP (F 0) (mCons (mVar 0) mNil)) mNil)))))
    (sSeq (sIf (mOrT (mNotT (mTru (mCallP (F 15) (mCons (mVar 2) mNil)))) (mBl (mOp eqD (mCallP (F 0) (mCons (mVar 0) mNil)) (mC (.int 1000)))))
    sNo
    sNil)
    (sRet (mCallP (F 9) (mCons (mVar 0) (mCons (mVar 1) (mCons (mVar 2) mNil))))))))
def m_out_at (F : Nat → FN) : MS :=
    (sSeq (sExp (mCallP (F 19) (mCons (mVar 0) mNil)))
    (sSeq (sExp (mCallP (F 20) (mCons (mVar 0) (mCons (mVar 1) (mCons (mOp subD (mCallP (F 0) (mCons (mVar 0) mNil)) (mC (.int 1))) mNil)))))
    (sRet (mCallP (F 12) (mCons (mVar 0) (mCons (mVar 1) mNil))))))
def m_parted (F : Nat → FN) : MS :=
    (sSeq (sExp (mCallP (F 19) (mCons (mVar 0) mNil)))
    (sSeq (sExp (mCallP (F 20) (mCons (mVar 0) (mCons (mVar 1) (mCons (mCallP (F 0) (mCons (mVar 0) mNil)) mNil)))))
    (sRet (mCallP (F 13) (mCons (mVar 0) (mCons (mVar 1) mNil))))))
def m_tied_both (F : Nat → FN) : MS :=
    (sSeq (sExp (mCallP (F 19) (mCons (mVar 0) mNil)))
    (sSeq (sExp (mCallP (F 19) (mCons (mVar 1) mNil)))
    (sSeq (sIf (mBl (mOp gtD (mOp addD (mCallP (F 0) (mCons (mVar 0) mNil)) (mCallP (F 0) (mCons (mVar 1) mNil))) (mC (.int 1000))))
    sNo
    sNil)
    (sRet (mCallP (F 11) (mCons (mVar 0) (mCons (mVar 1) mNil)))))))
def m_steps_of (F : Nat → FN) : MS :=
    (sSeq (sSet 1 (mC (.int 1)))
    (sSeq (sSet 2 (mOp addD (mVar 0) (mC (.int 1))))
    (sSeq (wLoop (mBl (mOp geD (mVar 2) (mC (.int 2))))
    (sSeq (sSet 2 (mOp divD (mOp mulD (mVar 2) (mC (.int 3))) (mC (.int 4))))
    (sAug 1 addI (mC (.int 1)))) 20000000)
    (sRet (mVar 1)))))
def m_number_tie (F : Nat → FN) : MS :=
    (sSeq (sIf (mBl (mOp isD (mVar 0) (mC .non)))
    (sRet (mC (.int 0)))
    sNil)
    (sSeq (sAsg (gT 4 (gsCons (gN 3) (gsCons (gN 4) (gsCons (gN 5) (gsCons (gN 6) gsNil))))) (mVar 0))
    (sSeq (sSet 2 (mFn fTup (mCons (mCall (F 27) (mCons (mVar 3) (mCons (mVar 1) mNil))) (mCons (mFn reprD (mCons (mVar 4) mNil)) (mCons (mCall (F 27) (mCons (mVar 5) (mCons (mVar 1) mNil))) mNil)))))
    (sRet (mMt "dict" setdefD (mVar 1) (mCons (mVar 2) (mCons (mOp addD (mFn lenD (mCons (mVar 1) mNil)) (mC (.int 1))) mNil)))))))
def m_fresh (F : Nat → FN) : MS :=
    (sSeq (sExp (mCallP (F 19) (mCons (mVar 0) mNil)))
    (sSeq (sFor 20000000 (iLst (mVar 1)) (gN 2)
    (sExp (mCallP (F 19) (mCons (mVar 2) mNil))))
    (sSeq (sSet 3 fDt)
    (sSeq (sFor 20000000 (iLst (mVar 1)) (gN 2)
    (sExp (mCall (F 27) (mCons (mVar 2) (mCons (mVar 3) mNil)))))
    (sSeq (sSet 4 (mFn lenD (mCons (mVar 3) mNil)))
    (sSeq (sExp (mCall (F 27) (mCons (mVar 0) (mCons (mVar 3) mNil))))
    (sRet (mOp subD (mFn lenD (mCons (mVar 3) mNil)) (mVar 4)))))))))
def m__law_take (F : Nat → FN) : MS :=
    (sSeq (sIf (mBl (mOp gtD (mOp ixD (mVar 0) (mC (.int 2))) (mC (.int 0))))
    (sSeq (sSet 3 (mOp modD (mOp ixD (mVar 0) (mC (.int 2))) (mVar 1)))
    (sSeq (sSub (mVar 0) (mC (.int 2)) (mOp divD (mOp ixD (mVar 0) (mC (.int 2))) (mVar 1)))
    (sRet (mVar 3))))
    sNil)
    (sSeq (sSet 2 (mOp ixD (mVar 0) (mC (.int 1))))
    (sSeq (sIf (mBl (mOp neD (mOp ixD (mVar 0) (mC (.int 0))) (mFn fLst mNil)))
    (sSet 2 (mOp ixD (mOp ixD (mVar 0) (mC (.int 0))) (mOp modD (mOp ixD (mVar 0) (mC (.int 1))) (mFn lenD (mCons (mOp ixD (mVar 0) (mC (.int 0))) mNil)))))
    sNil)
    (sSeq (sSub (mVar 0) (mC (.int 1)) (mOp addD (mOp ixD (mVar 0) (mC (.int 1))) (mC (.int 1))))
    (sSeq (sIf (mAndT (mBl (mOp geD (mVar 2) (mOp powD (mC (.int 10)) (mC (.int 18))))) (mBl (mOp leD (mOp ixD (mVar 0) (mC (.int 1))) (mFn lenD (mCons (mOp ixD (mVar 0) (mC (.int 0))) mNil)))))
    (sSeq (sSub (mVar 0) (mC (.int 2)) (mOp divD (mVar 2) (mVar 1)))
    (sRet (mOp modD (mVar 2) (mVar 1))))
    sNil)
    (sSeq (sSet 2 (mOp modD (mVar 2) (mC (.int 2305843009213693951))))
    (sSeq (sSub (mVar 0) (mC (.int 3)) (mOp modD (mOp addD (mOp addD (mOp mulD (mOp ixD (mVar 0) (mC (.int 3))) (mC (.int 48271))) (mOp mulD (mVar 2) (mC (.int 69621)))) (mOp ixD (mVar 0) (mC (.int 1)))) (mC (.int 2305843009213693951))))
    (sRet (mOp modD (mOp divD (mOp modD (mOp mulD (mOp ixD (mVar 0) (mC (.int 3))) (mOp ixD (mVar 0) (mC (.int 3)))) (mC (.int 2147483629))) (mC (.int 8))) (mVar 1))))))))))
def m__law_count (F : Nat → FN) : MS :=
    (sSeq (sIf (mBl (mOp isD (mVar 0) (mC .non)))
    (sRet (mC (.int 0)))
    sNil)
    (sRet (mOp ixD (mVar 0) (mC (.int 3)))))
def m__law_over (F : Nat → FN) : MS :=
    (sRet (mFn fTup (mCons (mVar 0) (mCons (mVar 1) (mCons (mVar 2) (mCons (mOp addD (mOp addD (mCallP (F 30) (mCons (mVar 0) mNil)) (mC (.int 1))) (mCallP (F 30) (mCons (mVar 2) mNil))) mNil))))))
def m__law_made (F : Nat → FN) : MS :=
    (sSeq (sIf (mBl (mOp eqD (mVar 1) (mFn fLst mNil)))
    (sRet (mC .non))
    sNil)
    (sSeq (sSet 2 (mOp subD (mFn lenD (mCons (mVar 1) mNil)) (mC (.int 1))))
    (sSeq (sSet 3 (mFn maxD (mCons (mC (.int 0)) (mCons (mOp subD (mOp divD (mOp addD (mVar 2) (mC (.int 5))) (mC (.int 4))) (mC (.int 1))) mNil))))
    (sSeq (sSet 4 (mOp divD (mVar 2) (mC (.int 2))))
    (sSeq (sIf (mAndT (mBl (mOp gtD (mOp subD (mVar 2) (mOp mulD (mC (.int 2)) (mVar 3))) (mC (.int 0)))) (mBl (mOp eqD (mCall (F 29) (mCons (mVar 0) (mCons (mC (.int 3)) mNil))) (mC (.int 0)))))
    (sSet 4 (mOp addD (mVar 3) (mCall (F 29) (mCons (mVar 0) (mCons (mOp addD (mOp subD (mVar 2) (mOp mulD (mC (.int 2)) (mVar 3))) (mC (.int 1))) mNil)))))
    sNil)
    (sRet (mCallP (F 31) (mCons (mCall (F 32) (mCons (mVar 0) (mCons (mSl (mVar 1) mON (mOS (mVar 4))) mNil))) (mCons (mOp ixD (mVar 1) (mVar 4)) (mCons (mCall (F 32) (mCons (mVar 0) (mCons (mSl (mVar 1) (mOS (mOp addD (mVar 4) (mC (.int 1)))) mON) mNil))) mNil))))))))))
def m__law_number (F : Nat → FN) : MS :=
    (sSeq (sIf (mBl (mOp isD (mVar 0) (mC .non)))
    (sRet (mC (.int 0)))
    sNil)
    (sSeq (sSet 2 (mFn fTup (mCons (mCall (F 33) (mCons (mOp ixD (mVar 0) (mC (.int 0))) (mCons (mVar 1) mNil))) (mCons (mOp ixD (mVar 0) (mC (.int 1))) (mCons (mCall (F 33) (mCons (mOp ixD (mVar 0) (mC (.int 2))) (mCons (mVar 1) mNil))) mNil)))))
    (sRet (mMt "dict" setdefD (mVar 1) (mCons (mVar 2) (mCons (mOp addD (mFn lenD (mCons (mVar 1) mNil)) (mC (.int 1))) mNil))))))
def m__law_deep (F : Nat → FN) : MS :=
    (sSeq (sIf (mBl (mOp isD (mVar 0) (mC .non)))
    (sRet (mC (.int 0)))
    sNil)
    (sRet (mOp addD (mC (.int 1)) (mFn maxD (mCons (mCallP (F 34) (mCons (mOp ixD (mVar 0) (mC (.int 0))) mNil)) (mCons (mCallP (F 34) (mCons (mOp ixD (mVar 0) (mC (.int 2))) mNil)) mNil))))))
def m__law_new (F : Nat → FN) : MS :=
    (sSeq (sSet 2 fDt)
    (sSeq (sFor 20000000 (iLst (mVar 1)) (gN 3)
    (sExp (mCall (F 33) (mCons (mVar 3) (mCons (mVar 2) mNil)))))
    (sSeq (sSet 4 (mFn lenD (mCons (mVar 2) mNil)))
    (sSeq (sExp (mCall (F 33) (mCons (mVar 0) (mCons (mVar 2) mNil))))
    (sRet (mOp subD (mFn lenD (mCons (mVar 2) mNil)) (mVar 4)))))))
def m__law_is_cheap (F : Nat → FN) : MS :=
    (sSeq (sSet 2 (mOp addD (mFn sumD (mCons (mComp 20000000 (iLst (mVar 1)) (gN 6) mYes (mCallP (F 30) (mCons (mVar 6) mNil)) [6]) mNil)) (mC (.int 1))))
    (sSeq (sFor 20000000 (iLst (mVar 0)) (gN 3)
    (sSeq (sSet 4 (mCall (F 35) (mCons (mVar 3) (mCons (mVar 1) mNil))))
    (sSeq (sSet 5 (mOp addD (mC (.int 8)) (mOp mulD (mC (.int 8)) (mCallP (F 26) (mCons (mFn minD (mCons (mC (.int 1000)) (mCons (mVar 2) mNil))) mNil)))))
    (sIf (mOrT (mBl (mOp gtD (mVar 4) (mVar 5))) (mOrT (mBl (mOp neD (mCall (F 28) (mCons (mVar 3) (mCons (mVar 1) mNil))) (mVar 4))) (mBl (mOp gtD (mCallP (F 34) (mCons (mVar 3) mNil)) (mCallP (F 26) (mCons (mCallP (F 30) (mCons (mVar 3) mNil)) mNil))))))
    (sRet (mC (.bl false)))
    sNil))))
    (sRet (mC (.bl true)))))
def m_law (F : Nat → FN) : MS :=
    (sSeq (sSet 1 (mFn fLst (mCons (mVar 0) (mCons (mC (.int 0)) (mCons (mC (.int 0)) (mCons (mC (.int 68)) mNil))))))
    (sSeq (sSet 2 (mCall (F 29) (mCons (mVar 1) (mCons (mC (.int 61)) mNil))))
    (sSeq (sIf (mBl (mOp eqD (mCall (F 29) (mCons (mVar 1) (mCons (mC (.int 4)) mNil))) (mC (.int 0))))
    (sSet 2 (mOp addD (mC (.int 500)) (mCall (F 29) (mCons (mVar 1) (mCons (mC (.int 500)) mNil)))))
    sNil)
    (sSeq (sSet 3 (mOp ixD (mFn fLst (mCons (mCall (F 21) (mCons (mLrg (mCons (mVar 2) mNil)) mNil)) (mCons (mCall (F 32) (mCons (mVar 1) (mCons (mLrg (mCons (mVar 2) mNil)) mNil))) mNil))) (mCall (F 29) (mCons (mVar 1) (mCons (mC (.int 2)) mNil)))))
    (sSeq (sFor 20000000 (iRng1 (mCons (mOp ixD (mFn fLst (mCons (mC (.int 12)) (mCons (mC (.int 3)) mNil))) (mFn intD (mCons (mOp gtD (mVar 2) (mC (.int 60))) mNil))) mNil)) (gN 4)
    (sSeq (sSet 5 (mCall (F 29) (mCons (mVar 1) (mCons (mC (.int 4)) mNil))))
    (sSeq (sSet 6 (mCallP (F 30) (mCons (mVar 3) mNil)))
    (sSeq (sSet 7 (mCall (F 29) (mCons (mVar 1) (mCons (mOp addD (mVar 6) (mC (.int 1))) mNil))))
    (sSeq (sIf (mAndT (mBl (mOp eqD (mVar 5) (mC (.int 0)))) (mBl (mOp ltD (mVar 6) (mC (.int 1000)))))
    (sSet 9 (mFn fLst (mCons (mCallP (F 22) (mCons (mVar 3) (mCons (mVar 7) (mCons (mOp addD (mC (.int 5000)) (mVar 4)) mNil)))) mNil)))
    (sIf (mAndT (mBl (mOp eqD (mVar 5) (mC (.int 1)))) (mBl (mOp ltD (mVar 7) (mVar 6))))
    (sSet 9 (mFn fLst (mCons (mCallP (F 23) (mCons (mVar 3) (mCons (mVar 7) mNil))) mNil)))
    (sSet 9 (mFn listD (mCons (mCallP (F 24) (mCons (mVar 3) (mCons (mVar 7) mNil))) mNil)))))
    (sSeq (sIf (mNotT (mTru (mCall (F 36) (mCons (mVar 9) (mCons (mFn fLst (mCons (mVar 3) mNil)) mNil)))))
    (sRet (mC (.bl false)))
    sNil)
    (sSeq (sSet 8 (mFn fLst mNil))
    (sSeq (sIf (mBl (mOp eqD (mFn lenD (mCons (mVar 9) mNil)) (mC (.int 2))))
    (sSet 8 (mFn fLst (mCons (mCallP (F 25) (mCons (mOp ixD (mVar 9) (mC (.int 1))) (mCons (mOp ixD (mVar 9) (mC (.int 0))) mNil))) mNil)))
    sNil)
    (sSeq (sIf (mNotT (mTru (mCall (F 36) (mCons (mVar 8) (mCons (mVar 9) mNil)))))
    (sRet (mC (.bl false)))
    sNil)
    (sSet 3 (mOp ixD (mOp addD (mVar 8) (mVar 9)) (mC (.int 0)))))))))))))
    (sRet (mC (.bl true))))))))
def bod (F : Nat → FN) : Nat → FN
  | 0 => runF 1 1 (m_count_of F)
  | 1 => runF 3 3 (m_tie_over F)
  | 2 => runF 2 2 (m_are_even F)
  | 3 => runF 2 2 (m_is_even_top F)
  | 4 => runF 1 2 (m_by_halves F)
  | 5 => runF 3 11 (m_turned_left F)
  | 6 => runF 3 11 (m_turned_right F)
  | 7 => runF 3 3 (m_evened F)
  | 8 => runF 3 7 (m_linked F)
  | 9 => runF 3 7 (m_with_more F)
  | 10 => runF 1 7 (m_without_first F)
  | 11 => runF 2 4 (m_one_behind F)
  | 12 => runF 2 8 (m_without_item F)
  | 13 => runF 2 8 (m_cut_at F)
  | 14 => runF 1 1 (m_is_plain F)
  | 15 => runF 1 2 (m_is_item F)
  | 16 => runF 1 1 (m_told_count F)
  | 17 => runF 2 7 (m_is_even_of F)
  | 18 => runF 1 1 (m_is_even F)
  | 19 => runF 1 1 (m_look_tie F)
  | 20 => runF 3 3 (m_look_item F)
  | 21 => runF 1 2 (m_tied F)
  | 22 => runF 3 3 (m_put_at F)
  | 23 => runF 2 2 (m_out_at F)
  | 24 => runF 2 2 (m_parted F)
  | 25 => runF 2 2 (m_tied_both F)
  | 26 => runF 1 3 (m_steps_of F)
  | 27 => runF 2 7 (m_number_tie F)
  | 28 => runF 2 5 (m_fresh F)
  | 29 => runF 2 4 (m__law_take F)
  | 30 => runF 1 1 (m__law_count F)
  | 31 => runF 3 3 (m__law_over F)
  | 32 => runF 2 5 (m__law_made F)
  | 33 => runF 2 3 (m__law_number F)
  | 34 => runF 1 1 (m__law_deep F)
  | 35 => runF 2 5 (m__law_new F)
  | 36 => runF 2 7 (m__law_is_cheap F)
  | 37 => runF 1 10 (m_law F)
  | _ => fun _ _ => .no
def Fs : Nat → Nat → FN
  | 0 => fun _ _ _ => .no
  | d + 1 => bod (Fs d)
/-! ### what the top gives -/
structure Base (K : PySem.W.Frag) (mg : Str → Option Value) : Prop where
  f_count_of : ∃ f fd, mg "count_of" = some (.ref f) ∧ Fun K "count_of" "count_of" st_count_of f fd ∧ BindA fd ["tie"]
  f_tie_over : ∃ f fd, mg "tie_over" = some (.ref f) ∧ Fun K "tie_over" "tie_over" st_tie_over f fd ∧ BindA fd ["left", "item", "right"]
  f_are_even : ∃ f fd, mg "are_even" = some (.ref f) ∧ Fun K "are_even" "are_even" st_are_even f fd ∧ BindA fd ["one", "other"]
  f_is_even_top : ∃ f fd, mg "is_even_top" = some (.ref f) ∧ Fun K "is_even_top" "is_even_top" st_is_even_top f fd ∧ BindA fd ["left", "right"]
  f_by_halves : ∃ f fd, mg "by_halves" = some (.ref f) ∧ Fun K "by_halves" "by_halves" st_by_halves f fd ∧ BindA fd ["items"]
  f_turned_left : ∃ f fd, mg "turned_left" = some (.ref f) ∧ Fun K "turned_left" "turned_left" st_turned_left f fd ∧ BindA fd ["left", "item", "right"]
  f_turned_right : ∃ f fd, mg "turned_right" = some (.ref f) ∧ Fun K "turned_right" "turned_right" st_turned_right f fd ∧ BindA fd ["left", "item", "right"]
  f_evened : ∃ f fd, mg "evened" = some (.ref f) ∧ Fun K "evened" "evened" st_evened f fd ∧ BindA fd ["left", "item", "right"]
  f_linked : ∃ f fd, mg "linked" = some (.ref f) ∧ Fun K "linked" "linked" st_linked f fd ∧ BindA fd ["left", "item", "right"]
  f_with_more : ∃ f fd, mg "with_more" = some (.ref f) ∧ Fun K "with_more" "with_more" st_with_more f fd ∧ BindA fd ["tie", "at", "new"]
  f_without_first : ∃ f fd, mg "without_first" = some (.ref f) ∧ Fun K "without_first" "without_first" st_without_first f fd ∧ BindA fd ["tie"]
  f_one_behind : ∃ f fd, mg "one_behind" = some (.ref f) ∧ Fun K "one_behind" "one_behind" st_one_behind f fd ∧ BindA fd ["one", "other"]
  f_without_item : ∃ f fd, mg "without_item" = some (.ref f) ∧ Fun K "without_item" "without_item" st_without_item f fd ∧ BindA fd ["tie", "at"]
  f_cut_at : ∃ f fd, mg "cut_at" = some (.ref f) ∧ Fun K "cut_at" "cut_at" st_cut_at f fd ∧ BindA fd ["tie", "at"]
  f_is_plain : ∃ f fd, mg "is_plain" = some (.ref f) ∧ Fun K "is_plain" "is_plain" st_is_plain f fd ∧ BindA fd ["thing"]
  f_is_item : ∃ f fd, mg "is_item" = some (.ref f) ∧ Fun K "is_item" "is_item" st_is_item f fd ∧ BindA fd ["thing"]
  f_told_count : ∃ f fd, mg "told_count" = some (.ref f) ∧ Fun K "told_count" "told_count" st_told_count f fd ∧ BindA fd ["thing"]
  f_is_even_of : ∃ f fd, mg "is_even_of" = some (.ref f) ∧ Fun K "is_even_of" "is_even_of" st_is_even_of f fd ∧ BindA fd ["thing", "count"]
  f_is_even : ∃ f fd, mg "is_even" = some (.ref f) ∧ Fun K "is_even" "is_even" st_is_even f fd ∧ BindA fd ["thing"]
  f_look_tie : ∃ f fd, mg "look_tie" = some (.ref f) ∧ Fun K "look_tie" "look_tie" st_look_tie f fd ∧ BindA fd ["thing"]
  f_look_item : ∃ f fd, mg "look_item" = some (.ref f) ∧ Fun K "look_item" "look_item" st_look_item f fd ∧ BindA fd ["tie", "at", "most"]
  f_tied : ∃ f fd, mg "tied" = some (.ref f) ∧ Fun K "tied" "tied" st_tied f fd ∧ BindA fd ["items"]
  f_put_at : ∃ f fd, mg "put_at" = some (.ref f) ∧ Fun K "put_at" "put_at" st_put_at f fd ∧ BindA fd ["tie", "at", "item"]
  f_out_at : ∃ f fd, mg "out_at" = some (.ref f) ∧ Fun K "out_at" "out_at" st_out_at f fd ∧ BindA fd ["tie", "at"]
  f_parted : ∃ f fd, mg "parted" = some (.ref f) ∧ Fun K "parted" "parted" st_parted f fd ∧ BindA fd ["tie", "at"]
  f_tied_both : ∃ f fd, mg "tied_both" = some (.ref f) ∧ Fun K "tied_both" "tied_both" st_tied_both f fd ∧ BindA fd ["one", "other"]
  f_steps_of : ∃ f fd, mg "steps_of" = some (.ref f) ∧ Fun K "steps_of" "steps_of" st_steps_of f fd ∧ BindA fd ["many"]
  f_number_tie : ∃ f fd, mg "number_tie" = some (.ref f) ∧ Fun K "number_tie" "number_tie" st_number_tie f fd ∧ BindA fd ["tie", "numbers"]
  f_fresh : ∃ f fd, mg "fresh" = some (.ref f) ∧ Fun K "fresh" "fresh" st_fresh f fd ∧ BindA fd ["tie", "some"]
  f__law_take : ∃ f fd, mg "_law_take" = some (.ref f) ∧ Fun K "_law_take" "_law_take" st__law_take f fd ∧ BindA fd ["_law_state", "_law_below"]
  f__law_count : ∃ f fd, mg "_law_count" = some (.ref f) ∧ Fun K "_law_count" "_law_count" st__law_count f fd ∧ BindA fd ["_law_tie"]
  f__law_over : ∃ f fd, mg "_law_over" = some (.ref f) ∧ Fun K "_law_over" "_law_over" st__law_over f fd ∧ BindA fd ["_law_left", "_law_item", "_law_right"]
  f__law_made : ∃ f fd, mg "_law_made" = some (.ref f) ∧ Fun K "_law_made" "_law_made" st__law_made f fd ∧ BindA fd ["_law_state", "_law_items"]
  f__law_number : ∃ f fd, mg "_law_number" = some (.ref f) ∧ Fun K "_law_number" "_law_number" st__law_number f fd ∧ BindA fd ["_law_tie", "_law_numbers"]
  f__law_deep : ∃ f fd, mg "_law_deep" = some (.ref f) ∧ Fun K "_law_deep" "_law_deep" st__law_deep f fd ∧ BindA fd ["_law_tie"]
  f__law_new : ∃ f fd, mg "_law_new" = some (.ref f) ∧ Fun K "_law_new" "_law_new" st__law_new f fd ∧ BindA fd ["_law_tie", "_law_some"]
  f__law_is_cheap : ∃ f fd, mg "_law_is_cheap" = some (.ref f) ∧ Fun K "_law_is_cheap" "_law_is_cheap" st__law_is_cheap f fd ∧ BindA fd ["_law_made_here", "_law_some"]
  f_law : ∃ f fd, mg "law" = some (.ref f) ∧ Fun K "law" "law" st_law f fd ∧ BindA fd ["_law_script"]
  b_all : mg "all" = none
  b_bool : mg "bool" = none
  b_int : mg "int" = none
  b_isinstance : mg "isinstance" = none
  b_len : mg "len" = none
  b_list : mg "list" = none
  b_max : mg "max" = none
  b_min : mg "min" = none
  b_range : mg "range" = none
  b_repr : mg "repr" = none
  b_str : mg "str" = none
  b_sum : mg "sum" = none
  b_tuple : mg "tuple" = none
  c_HEAVIER : ∃ t, mg "HEAVIER" = some (.int 3 t)
  c_TIED : ∃ t, mg "TIED" = some (.int 1000 t)
  c_WIDEST : ∃ t, mg "WIDEST" = some (.int 8 t)
structure Top (P : Program) (w : World) (K : PySem.W.Frag) (mg : Str → Option Value) (base : Heap) (k : Nat) (F : Nat → FN) : Prop extends Base K mg where
  h_count_of : HasFn P w K mg base k "count_of" 1 (F 0)
  h_tie_over : HasFn P w K mg base k "tie_over" 3 (F 1)
  h_are_even : HasFn P w K mg base k "are_even" 2 (F 2)
  h_is_even_top : HasFn P w K mg base k "is_even_top" 2 (F 3)
  h_by_halves : HasFn P w K mg base k "by_halves" 1 (F 4)
  h_turned_left : HasFn P w K mg base k "turned_left" 3 (F 5)
  h_turned_right : HasFn P w K mg base k "turned_right" 3 (F 6)
  h_evened : HasFn P w K mg base k "evened" 3 (F 7)
  h_linked : HasFn P w K mg base k "linked" 3 (F 8)
  h_with_more : HasFn P w K mg base k "with_more" 3 (F 9)
  h_without_first : HasFn P w K mg base k "without_first" 1 (F 10)
  h_one_behind : HasFn P w K mg base k "one_behind" 2 (F 11)
  h_without_item : HasFn P w K mg base k "without_item" 2 (F 12)
  h_cut_at : HasFn P w K mg base k "cut_at" 2 (F 13)
  h_is_plain : HasFn P w K mg base k "is_plain" 1 (F 14)
  h_is_item : HasFn P w K mg base k "is_item" 1 (F 15)
  h_told_count : HasFn P w K mg base k "told_count" 1 (F 16)
  h_is_even_of : HasFn P w K mg base k "is_even_of" 2 (F 17)
  h_is_even : HasFn P w K mg base k "is_even" 1 (F 18)
  h_look_tie : HasFn P w K mg base k "look_tie" 1 (F 19)
  h_look_item : HasFn P w K mg base k "look_item" 3 (F 20)
  h_tied : HasFn P w K mg base k "tied" 1 (F 21)
  h_put_at : HasFn P w K mg base k "put_at" 3 (F 22)
  h_out_at : HasFn P w K mg base k "out_at" 2 (F 23)
  h_parted : HasFn P w K mg base k "parted" 2 (F 24)
  h_tied_both : HasFn P w K mg base k "tied_both" 2 (F 25)
  h_steps_of : HasFn P w K mg base k "steps_of" 1 (F 26)
  h_number_tie : HasFn P w K mg base k "number_tie" 2 (F 27)
  h_fresh : HasFn P w K mg base k "fresh" 2 (F 28)
  h__law_take : HasFn P w K mg base k "_law_take" 2 (F 29)
  h__law_count : HasFn P w K mg base k "_law_count" 1 (F 30)
  h__law_over : HasFn P w K mg base k "_law_over" 3 (F 31)
  h__law_made : HasFn P w K mg base k "_law_made" 2 (F 32)
  h__law_number : HasFn P w K mg base k "_law_number" 2 (F 33)
  h__law_deep : HasFn P w K mg base k "_law_deep" 1 (F 34)
  h__law_new : HasFn P w K mg base k "_law_new" 2 (F 35)
  h__law_is_cheap : HasFn P w K mg base k "_law_is_cheap" 2 (F 36)
  h_law : HasFn P w K mg base k "law" 1 (F 37)
section
variable {P : Program} {w : World} {K : PySem.W.Frag} {mg : Str → Option Value} {base : Heap} {k : Nat} {F : Nat → FN}
theorem d_count_of (T : Top P w K mg base k F) {f : Addr} {cdv : Value} {A : Around} {outer : List PySem.Env} {s : Shared} {H : Hp} {E : XK} (hr : Room k (A.deeper (envOfC "count_of" (defScope st_count_of) s.heap.objs.size f cdv))) :
    SSs (cxOf (L2.CX P w) P w K mg base N_count_of "count_of" (defScope st_count_of) f cdv A outer s H E) (fun cls d _ H => E cls d H) (defBody st_count_of) (m_count_of F) := by
  have nd := sc_count_of.nd
  have tk : Takes (cxOf (L2.CX P w) P w K mg base N_count_of "count_of" (defScope st_count_of) f cdv A outer s H E) (fun cls d _ H => E cls d H) := takes_of rfl rfl rfl rfl
  exact
    (ss_cons (s_if (t_cmp cs_is (e_var 0) e_non)
    (ss_one (s_ret e_int))
    ss_nil)
    (ss_one (s_ret (e_ix is_ix (e_var 0) e_int))))
theorem d_tie_over (T : Top P w K mg base k F) {f : Addr} {cdv : Value} {A : Around} {outer : List PySem.Env} {s : Shared} {H : Hp} {E : XK} (hr : Room k (A.deeper (envOfC "tie_over" (defScope st_tie_over) s.heap.objs.size f cdv))) :
    SSs (cxOf (L2.CX P w) P w K mg base N_tie_over "tie_over" (defScope st_tie_over) f cdv A outer s H E) (fun cls d _ H => E cls d H) (defBody st_tie_over) (m_tie_over F) := by
  have nd := sc_tie_over.nd
  have tk : Takes (cxOf (L2.CX P w) P w K mg base N_tie_over "tie_over" (defScope st_tie_over) f cdv A outer s H E) (fun cls d _ H => E cls d H) := takes_of rfl rfl rfl rfl
  exact
    (ss_one (s_ret (e_tup (a_cons (e_var 0) (a_cons (e_var 1) (a_cons (e_var 2) (a_cons (e_op os_add (e_op os_add (e_callP T.h_count_of hr tk rfl (a_cons (e_var 0) a_nil)) e_int) (e_callP T.h_count_of hr tk rfl (a_cons (e_var 2) a_nil))) a_nil)))))))
theorem d_are_even (T : Top P w K mg base k F) {f : Addr} {cdv : Value} {A : Around} {outer : List PySem.Env} {s : Shared} {H : Hp} {E : XK} (hr : Room k (A.deeper (envOfC "are_even" (defScope st_are_even) s.heap.objs.size f cdv))) :
    SSs (cxOf (L2.CX P w) P w K mg base N_are_even "are_even" (defScope st_are_even) f cdv A outer s H E) (fun cls d _ H => E cls d H) (defBody st_are_even) (m_are_even F) := by
  have nd := sc_are_even.nd
  have tk : Takes (cxOf (L2.CX P w) P w K mg base N_are_even "are_even" (defScope st_are_even) f cdv A outer s H E) (fun cls d _ H => E cls d H) := takes_of rfl rfl rfl rfl
  exact
    (ss_one (s_ret (e_and (e_cmp cs_le (e_op os_add (e_var 0) e_int) (e_op os_mul (e_gint rfl T.c_HEAVIER) (e_op os_add (e_var 1) e_int))) (e_one (e_cmp cs_le (e_op os_add (e_var 1) e_int) (e_op os_mul (e_gint rfl T.c_HEAVIER) (e_op os_add (e_var 0) e_int)))))))
theorem d_is_even_top (T : Top P w K mg base k F) {f : Addr} {cdv : Value} {A : Around} {outer : List PySem.Env} {s : Shared} {H : Hp} {E : XK} (hr : Room k (A.deeper (envOfC "is_even_top" (defScope st_is_even_top) s.heap.objs.size f cdv))) :
    SSs (cxOf (L2.CX P w) P w K mg base N_is_even_top "is_even_top" (defScope st_is_even_top) f cdv A outer s H E) (fun cls d _ H => E cls d H) (defBody st_is_even_top) (m_is_even_top F) := by
  have nd := sc_is_even_top.nd
  have tk : Takes (cxOf (L2.CX P w) P w K mg base N_is_even_top "is_even_top" (defScope st_is_even_top) f cdv A outer s H E) (fun cls d _ H => E cls d H) := takes_of rfl rfl rfl rfl
  exact
    (ss_one (s_ret (e_callP T.h_are_even hr tk rfl (a_cons (e_callP T.h_count_of hr tk rfl (a_cons (e_var 0) a_nil)) (a_cons (e_callP T.h_count_of hr tk rfl (a_cons (e_var 1) a_nil)) a_nil)))))
theorem d_by_halves (T : Top P w K mg base k F) {f : Addr} {cdv : Value} {A : Around} {outer : List PySem.Env} {s : Shared} {H : Hp} {E : XK} (hr : Room k (A.deeper (envOfC "by_halves" (defScope st_by_halves) s.heap.objs.size f cdv))) :
    SSs (cxOf (L2.CX P w) P w K mg base N_by_halves "by_halves" (defScope st_by_halves) f cdv A outer s H E) (fun cls d _ H => E cls d H) (defBody st_by_halves) (m_by_halves F) := by
  have nd := sc_by_halves.nd
  have tk : Takes (cxOf (L2.CX P w) P w K mg base N_by_halves "by_halves" (defScope st_by_halves) f cdv A outer s H E) (fun cls d _ H => E cls d H) := takes_of rfl rfl rfl rfl
  exact
    (ss_cons (s_if (t_cmp (cs_eq (hu64_of hr)) (e_var 0) (e_lst a_nil))
    (ss_one (s_ret e_non))
    ss_nil)
    (ss_cons (s_set 1 nd (e_op os_div (e_callB (bs_len) rfl T.b_len L3.boot_len (a_cons (e_var 0) a_nil)) e_int))
    (ss_one (s_ret (e_callP T.h_tie_over hr tk rfl (a_cons (e_call T.h_by_halves hr tk rfl (a_cons (e_sl (e_var 0) o_none (o_some (e_var 1))) a_nil)) (a_cons (e_ix is_ix (e_var 0) (e_var 1)) (a_cons (e_call T.h_by_halves hr tk rfl (a_cons (e_sl (e_var 0) (o_some (e_op os_add (e_var 1) e_int)) o_none) a_nil)) a_nil))))))))
theorem d_turned_left (T : Top P w K mg base k F) {f : Addr} {cdv : Value} {A : Around} {outer : List PySem.Env} {s : Shared} {H : Hp} {E : XK} (hr : Room k (A.deeper (envOfC "turned_left" (defScope st_turned_left) s.heap.objs.size f cdv))) :
    SSs (cxOf (L2.CX P w) P w K mg base N_turned_left "turned_left" (defScope st_turned_left) f cdv A outer s H E) (fun cls d _ H => E cls d H) (defBody st_turned_left) (m_turned_left F) := by
  have nd := sc_turned_left.nd
  have tk : Takes (cxOf (L2.CX P w) P w K mg base N_turned_left "turned_left" (defScope st_turned_left) f cdv A outer s H E) (fun cls d _ H => E cls d H) := takes_of rfl rfl rfl rfl
  exact
    (ss_cons (s_asg (sl := [3, 4, 5, 6]) (e_var 2) (g_tup rfl (gs_cons (g_name 3 nd) (gs_cons (g_name 4 nd) (gs_cons (g_name 5 nd) (gs_cons (g_name 6 nd) gs_nil))))))
    (ss_cons (s_if (t_w (w_and (t_val (e_callP T.h_are_even hr tk rfl (a_cons (e_callP T.h_count_of hr tk rfl (a_cons (e_var 0) a_nil)) (a_cons (e_callP T.h_count_of hr tk rfl (a_cons (e_var 3) a_nil)) a_nil)))) (w_and1 (t_val (e_callP T.h_are_even hr tk rfl (a_cons (e_op os_add (e_op os_add (e_callP T.h_count_of hr tk rfl (a_cons (e_var 0) a_nil)) e_int) (e_callP T.h_count_of hr tk rfl (a_cons (e_var 3) a_nil))) (a_cons (e_callP T.h_count_of hr tk rfl (a_cons (e_var 5) a_nil)) a_nil)))))))
    (ss_one (s_ret (e_callP T.h_tie_over hr tk rfl (a_cons (e_callP T.h_tie_over hr tk rfl (a_cons (e_var 0) (a_cons (e_var 1) (a_cons (e_var 3) a_nil)))) (a_cons (e_var 4) (a_cons (e_var 5) a_nil))))))
    ss_nil)
    (ss_cons (s_asg (sl := [7, 8, 9, 10]) (e_var 3) (g_tup rfl (gs_cons (g_name 7 nd) (gs_cons (g_name 8 nd) (gs_cons (g_name 9 nd) (gs_cons (g_name 10 nd) gs_nil))))))
    (ss_one (s_ret (e_callP T.h_tie_over hr tk rfl (a_cons (e_callP T.h_tie_over hr tk rfl (a_cons (e_var 0) (a_cons (e_var 1) (a_cons (e_var 7) a_nil)))) (a_cons (e_var 8) (a_cons (e_callP T.h_tie_over hr tk rfl (a_cons (e_var 9) (a_cons (e_var 4) (a_cons (e_var 5) a_nil)))) a_nil)))))))))
theorem d_turned_right (T : Top P w K mg base k F) {f : Addr} {cdv : Value} {A : Around} {outer : List PySem.Env} {s : Shared} {H : Hp} {E : XK} (hr : Room k (A.deeper (envOfC "turned_right" (defScope st_turned_right) s.heap.objs.size f cdv))) :
    SSs (cxOf (L2.CX P w) P w K mg base N_turned_right "turned_right" (defScope st_turned_right) f cdv A outer s H E) (fun cls d _ H => E cls d H) (defBody st_turned_right) (m_turned_right F) := by
  have nd := sc_turned_right.nd
  have tk : Takes (cxOf (L2.CX P w) P w K mg base N_turned_right "turned_right" (defScope st_turned_right) f cdv A outer s H E) (fun cls d _ H => E cls d H) := takes_of rfl rfl rfl rfl
  exact
    (ss_cons (s_asg (sl := [3, 4, 5, 6]) (e_var 0) (g_tup rfl (gs_cons (g_name 3 nd) (gs_cons (g_name 4 nd) (gs_cons (g_name 5 nd) (gs_cons (g_name 6 nd) gs_nil))))))
    (ss_cons (s_if (t_w (w_and (t_val (e_callP T.h_are_even hr tk rfl (a_cons (e_callP T.h_count_of hr tk rfl (a_cons (e_var 2) a_nil)) (a_cons (e_callP T.h_count_of hr tk rfl (a_cons (e_var 5) a_nil)) a_nil)))) (w_and1 (t_val (e_callP T.h_are_even hr tk rfl (a_cons (e_op os_add (e_op os_add (e_callP T.h_count_of hr tk rfl (a_cons (e_var 2) a_nil)) e_int) (e_callP T.h_count_of hr tk rfl (a_cons (e_var 5) a_nil))) (a_cons (e_callP T.h_count_of hr tk rfl (a_cons (e_var 3) a_nil)) a_nil)))))))
    (ss_one (s_ret (e_callP T.h_tie_over hr tk rfl (a_cons (e_var 3) (a_cons (e_var 4) (a_cons (e_callP T.h_tie_over hr tk rfl (a_cons (e_var 5) (a_cons (e_var 1) (a_cons (e_var 2) a_nil)))) a_nil))))))
    ss_nil)
    (ss_cons (s_asg (sl := [7, 8, 9, 10]) (e_var 5) (g_tup rfl (gs_cons (g_name 7 nd) (gs_cons (g_name 8 nd) (gs_cons (g_name 9 nd) (gs_cons (g_name 10 nd) gs_nil))))))
    (ss_one (s_ret (e_callP T.h_tie_over hr tk rfl (a_cons (e_callP T.h_tie_over hr tk rfl (a_cons (e_var 3) (a_cons (e_var 4) (a_cons (e_var 7) a_nil)))) (a_cons (e_var 8) (a_cons (e_callP T.h_tie_over hr tk rfl (a_cons (e_var 9) (a_cons (e_var 1) (a_cons (e_var 2) a_nil)))) a_nil)))))))))
theorem d_evened (T : Top P w K mg base k F) {f : Addr} {cdv : Value} {A : Around} {outer : List PySem.Env} {s : Shared} {H : Hp} {E : XK} (hr : Room k (A.deeper (envOfC "evened" (defScope st_evened) s.heap.objs.size f cdv))) :
    SSs (cxOf (L2.CX P w) P w K mg base N_evened "evened" (defScope st_evened) f cdv A outer s H E) (fun cls d _ H => E cls d H) (defBody st_evened) (m_evened F) := by
  have nd := sc_evened.nd
  have tk : Takes (cxOf (L2.CX P w) P w K mg base N_evened "evened" (defScope st_evened) f cdv A outer s H E) (fun cls d _ H => E cls d H) := takes_of rfl rfl rfl rfl
  exact
    (ss_cons (s_if (t_val (e_callP T.h_is_even_top hr tk rfl (a_cons (e_var 0) (a_cons (e_var 2) a_nil))))
    (ss_one (s_ret (e_callP T.h_tie_over hr tk rfl (a_cons (e_var 0) (a_cons (e_var 1) (a_cons (e_var 2) a_nil))))))
    ss_nil)
    (ss_cons (s_if (t_cmp cs_lt (e_callP T.h_count_of hr tk rfl (a_cons (e_var 0) a_nil)) (e_callP T.h_count_of hr tk rfl (a_cons (e_var 2) a_nil)))
    (ss_one (s_ret (e_callP T.h_turned_left hr tk rfl (a_cons (e_var 0) (a_cons (e_var 1) (a_cons (e_var 2) a_nil))))))
    ss_nil)
    (ss_one (s_ret (e_callP T.h_turned_right hr tk rfl (a_cons (e_var 0) (a_cons (e_var 1) (a_cons (e_var 2) a_nil))))))))
theorem d_linked (T : Top P w K mg base k F) {f : Addr} {cdv : Value} {A : Around} {outer : List PySem.Env} {s : Shared} {H : Hp} {E : XK} (hr : Room k (A.deeper (envOfC "linked" (defScope st_linked) s.heap.objs.size f cdv))) :
    SSs (cxOf (L2.CX P w) P w K mg base N_linked "linked" (defScope st_linked) f cdv A outer s H E) (fun cls d _ H => E cls d H) (defBody st_linked) (m_linked F) := by
  have nd := sc_linked.nd
  have tk : Takes (cxOf (L2.CX P w) P w K mg base N_linked "linked" (defScope st_linked) f cdv A outer s H E) (fun cls d _ H => E cls d H) := takes_of rfl rfl rfl rfl
  exact
    (ss_cons (s_if (t_val (e_callP T.h_is_even_top hr tk rfl (a_cons (e_var 0) (a_cons (e_var 2) a_nil))))
    (ss_one (s_ret (e_callP T.h_tie_over hr tk rfl (a_cons (e_var 0) (a_cons (e_var 1) (a_cons (e_var 2) a_nil))))))
    ss_nil)
    (ss_cons (s_if (t_cmp cs_lt (e_callP T.h_count_of hr tk rfl (a_cons (e_var 0) a_nil)) (e_callP T.h_count_of hr tk rfl (a_cons (e_var 2) a_nil)))
    (ss_cons (s_asg (sl := [5, 4, 3, 6]) (e_var 2) (g_tup rfl (gs_cons (g_name 5 nd) (gs_cons (g_name 4 nd) (gs_cons (g_name 3 nd) (gs_cons (g_name 6 nd) gs_nil))))))
    (ss_one (s_ret (e_callP T.h_evened hr tk rfl (a_cons (e_callP T.h_linked hr tk rfl (a_cons (e_var 0) (a_cons (e_var 1) (a_cons (e_var 5) a_nil)))) (a_cons (e_var 4) (a_cons (e_var 3) a_nil)))))))
    ss_nil)
    (ss_cons (s_asg (sl := [3, 4, 5, 6]) (e_var 0) (g_tup rfl (gs_cons (g_name 3 nd) (gs_cons (g_name 4 nd) (gs_cons (g_name 5 nd) (gs_cons (g_name 6 nd) gs_nil))))))
    (ss_one (s_ret (e_callP T.h_evened hr tk rfl (a_cons (e_var 3) (a_cons (e_var 4) (a_cons (e_callP T.h_linked hr tk rfl (a_cons (e_var 5) (a_cons (e_var 1) (a_cons (e_var 2) a_nil)))) a_nil)))))))))
theorem d_with_more (T : Top P w K mg base k F) {f : Addr} {cdv : Value} {A : Around} {outer : List PySem.Env} {s : Shared} {H : Hp} {E : XK} (hr : Room k (A.deeper (envOfC "with_more" (defScope st_with_more) s.heap.objs.size f cdv))) :
    SSs (cxOf (L2.CX P w) P w K mg base N_with_more "with_more" (defScope st_with_more) f cdv A outer s H E) (fun cls d _ H => E cls d H) (defBody st_with_more) (m_with_more F) := by
  have nd := sc_with_more.nd
  have tk : Takes (cxOf (L2.CX P w) P w K mg base N_with_more "with_more" (defScope st_with_more) f cdv A outer s H E) (fun cls d _ H => E cls d H) := takes_of rfl rfl rfl rfl
  exact
    (ss_cons (s_if (t_cmp cs_is (e_var 0) e_non)
    (ss_one (s_ret (e_callP T.h_tie_over hr tk rfl (a_cons e_non (a_cons (e_var 2) (a_cons e_non a_nil))))))
    ss_nil)
    (ss_cons (s_asg (sl := [3, 4, 5, 6]) (e_var 0) (g_tup rfl (gs_cons (g_name 3 nd) (gs_cons (g_name 4 nd) (gs_cons (g_name 5 nd) (gs_cons (g_name 6 nd) gs_nil))))))
    (ss_cons (s_if (t_cmp cs_le (e_var 1) (e_callP T.h_count_of hr tk rfl (a_cons (e_var 3) a_nil)))
    (ss_one (s_ret (e_callP T.h_evened hr tk rfl (a_cons (e_callP T.h_with_more hr tk rfl (a_cons (e_var 3) (a_cons (e_var 1) (a_cons (e_var 2) a_nil)))) (a_cons (e_var 4) (a_cons (e_var 5) a_nil))))))
    ss_nil)
    (ss_one (s_ret (e_callP T.h_evened hr tk rfl (a_cons (e_var 3) (a_cons (e_var 4) (a_cons (e_callP T.h_with_more hr tk rfl (a_cons (e_var 5) (a_cons (e_op os_sub (e_op os_sub (e_var 1) (e_callP T.h_count_of hr tk rfl (a_cons (e_var 3) a_nil))) e_int) (a_cons (e_var 2) a_nil)))) a_nil)))))))))
theorem d_without_first (T : Top P w K mg base k F) {f : Addr} {cdv : Value} {A : Around} {outer : List PySem.Env} {s : Shared} {H : Hp} {E : XK} (hr : Room k (A.deeper (envOfC "without_first" (defScope st_without_first) s.heap.objs.size f cdv))) :
    SSs (cxOf (L2.CX P w) P w K mg base N_without_first "without_first" (defScope st_without_first) f cdv A outer s H E) (fun cls d _ H => E cls d H) (defBody st_without_first) (m_without_first F) := by
  have nd := sc_without_first.nd
  have tk : Takes (cxOf (L2.CX P w) P w K mg base N_without_first "without_first" (defScope st_without_first) f cdv A outer s H E) (fun cls d _ H => E cls d H) := takes_of rfl rfl rfl rfl
  exact
    (ss_cons (s_asg (sl := [1, 2, 3, 4]) (e_var 0) (g_tup rfl (gs_cons (g_name 1 nd) (gs_cons (g_name 2 nd) (gs_cons (g_name 3 nd) (gs_cons (g_name 4 nd) gs_nil))))))
    (ss_cons (s_if (t_cmp cs_is (e_var 1) e_non)
    (ss_one (s_ret (e_tup (a_cons (e_var 2) (a_cons (e_var 3) a_nil)))))
    ss_nil)
    (ss_cons (s_asg (sl := [5, 6]) (e_callP T.h_without_first hr tk rfl (a_cons (e_var 1) a_nil)) (g_tup rfl (gs_cons (g_name 5 nd) (gs_cons (g_name 6 nd) gs_nil))))
    (ss_one (s_ret (e_tup (a_cons (e_var 5) (a_cons (e_callP T.h_evened hr tk rfl (a_cons (e_var 6) (a_cons (e_var 2) (a_cons (e_var 3) a_nil)))) a_nil))))))))
theorem d_one_behind (T : Top P w K mg base k F) {f : Addr} {cdv : Value} {A : Around} {outer : List PySem.Env} {s : Shared} {H : Hp} {E : XK} (hr : Room k (A.deeper (envOfC "one_behind" (defScope st_one_behind) s.heap.objs.size f cdv))) :
    SSs (cxOf (L2.CX P w) P w K mg base N_one_behind "one_behind" (defScope st_one_behind) f cdv A outer s H E) (fun cls d _ H => E cls d H) (defBody st_one_behind) (m_one_behind F) := by
  have nd := sc_one_behind.nd
  have tk : Takes (cxOf (L2.CX P w) P w K mg base N_one_behind "one_behind" (defScope st_one_behind) f cdv A outer s H E) (fun cls d _ H => E cls d H) := takes_of rfl rfl rfl rfl
  exact
    (ss_cons (s_if (t_cmp cs_is (e_var 1) e_non)
    (ss_one (s_ret (e_var 0)))
    ss_nil)
    (ss_cons (s_asg (sl := [2, 3]) (e_callP T.h_without_first hr tk rfl (a_cons (e_var 1) a_nil)) (g_tup rfl (gs_cons (g_name 2 nd) (gs_cons (g_name 3 nd) gs_nil))))
    (ss_one (s_ret (e_callP T.h_linked hr tk rfl (a_cons (e_var 0) (a_cons (e_var 2) (a_cons (e_var 3) a_nil))))))))
theorem d_without_item (T : Top P w K mg base k F) {f : Addr} {cdv : Value} {A : Around} {outer : List PySem.Env} {s : Shared} {H : Hp} {E : XK} (hr : Room k (A.deeper (envOfC "without_item" (defScope st_without_item) s.heap.objs.size f cdv))) :
    SSs (cxOf (L2.CX P w) P w K mg base N_without_item "without_item" (defScope st_without_item) f cdv A outer s H E) (fun cls d _ H => E cls d H) (defBody st_without_item) (m_without_item F) := by
  have nd := sc_without_item.nd
  have tk : Takes (cxOf (L2.CX P w) P w K mg base N_without_item "without_item" (defScope st_without_item) f cdv A outer s H E) (fun cls d _ H => E cls d H) := takes_of rfl rfl rfl rfl
  exact
    (ss_cons (s_asg (sl := [2, 3, 4, 5]) (e_var 0) (g_tup rfl (gs_cons (g_name 2 nd) (gs_cons (g_name 3 nd) (gs_cons (g_name 4 nd) (gs_cons (g_name 5 nd) gs_nil))))))
    (ss_cons (s_if (t_cmp cs_lt (e_var 1) (e_callP T.h_count_of hr tk rfl (a_cons (e_var 2) a_nil)))
    (ss_one (s_ret (e_callP T.h_evened hr tk rfl (a_cons (e_callP T.h_without_item hr tk rfl (a_cons (e_var 2) (a_cons (e_var 1) a_nil))) (a_cons (e_var 3) (a_cons (e_var 4) a_nil))))))
    ss_nil)
    (ss_cons (s_if (t_cmp cs_gt (e_var 1) (e_callP T.h_count_of hr tk rfl (a_cons (e_var 2) a_nil)))
    (ss_one (s_ret (e_callP T.h_evened hr tk rfl (a_cons (e_var 2) (a_cons (e_var 3) (a_cons (e_callP T.h_without_item hr tk rfl (a_cons (e_var 4) (a_cons (e_op os_sub (e_op os_sub (e_var 1) (e_callP T.h_count_of hr tk rfl (a_cons (e_var 2) a_nil))) e_int) a_nil))) a_nil))))))
    ss_nil)
    (ss_cons (s_if (t_w (w_or (t_cmp cs_is (e_var 2) e_non) (w_or1 (t_cmp cs_is (e_var 4) e_non))))
    (ss_one (s_ret (e_or (e_var 2) (e_one (e_var 4)))))
    ss_nil)
    (ss_cons (s_asg (sl := [6, 7]) (e_callP T.h_without_first hr tk rfl (a_cons (e_var 4) a_nil)) (g_tup rfl (gs_cons (g_name 6 nd) (gs_cons (g_name 7 nd) gs_nil))))
    (ss_one (s_ret (e_callP T.h_evened hr tk rfl (a_cons (e_var 2) (a_cons (e_var 6) (a_cons (e_var 7) a_nil)))))))))))
theorem d_cut_at (T : Top P w K mg base k F) {f : Addr} {cdv : Value} {A : Around} {outer : List PySem.Env} {s : Shared} {H : Hp} {E : XK} (hr : Room k (A.deeper (envOfC "cut_at" (defScope st_cut_at) s.heap.objs.size f cdv))) :
    SSs (cxOf (L2.CX P w) P w K mg base N_cut_at "cut_at" (defScope st_cut_at) f cdv A outer s H E) (fun cls d _ H => E cls d H) (defBody st_cut_at) (m_cut_at F) := by
  have nd := sc_cut_at.nd
  have tk : Takes (cxOf (L2.CX P w) P w K mg base N_cut_at "cut_at" (defScope st_cut_at) f cdv A outer s H E) (fun cls d _ H => E cls d H) := takes_of rfl rfl rfl rfl
  exact
    (ss_cons (s_if (t_cmp cs_is (e_var 0) e_non)
    (ss_one (s_ret (e_tup (a_cons e_non (a_cons e_non a_nil)))))
    ss_nil)
    (ss_cons (s_asg (sl := [2, 3, 4, 5]) (e_var 0) (g_tup rfl (gs_cons (g_name 2 nd) (gs_cons (g_name 3 nd) (gs_cons (g_name 4 nd) (gs_cons (g_name 5 nd) gs_nil))))))
    (ss_cons (s_if (t_cmp cs_le (e_var 1) (e_callP T.h_count_of hr tk rfl (a_cons (e_var 2) a_nil)))
    (ss_cons (s_asg (sl := [6, 7]) (e_callP T.h_cut_at hr tk rfl (a_cons (e_var 2) (a_cons (e_var 1) a_nil))) (g_tup rfl (gs_cons (g_name 6 nd) (gs_cons (g_name 7 nd) gs_nil))))
    (ss_one (s_ret (e_tup (a_cons (e_var 6) (a_cons (e_callP T.h_linked hr tk rfl (a_cons (e_var 7) (a_cons (e_var 3) (a_cons (e_var 4) a_nil)))) a_nil))))))
    ss_nil)
    (ss_cons (s_asg (sl := [6, 7]) (e_callP T.h_cut_at hr tk rfl (a_cons (e_var 4) (a_cons (e_op os_sub (e_op os_sub (e_var 1) (e_callP T.h_count_of hr tk rfl (a_cons (e_var 2) a_nil))) e_int) a_nil))) (g_tup rfl (gs_cons (g_name 6 nd) (gs_cons (g_name 7 nd) gs_nil))))
    (ss_one (s_ret (e_tup (a_cons (e_callP T.h_linked hr tk rfl (a_cons (e_var 2) (a_cons (e_var 3) (a_cons (e_var 6) a_nil)))) (a_cons (e_var 7) a_nil)))))))))
theorem d_is_plain (T : Top P w K mg base k F) {f : Addr} {cdv : Value} {A : Around} {outer : List PySem.Env} {s : Shared} {H : Hp} {E : XK} (hr : Room k (A.deeper (envOfC "is_plain" (defScope st_is_plain) s.heap.objs.size f cdv))) :
    SSs (cxOf (L2.CX P w) P w K mg base N_is_plain "is_plain" (defScope st_is_plain) f cdv A outer s H E) (fun cls d _ H => E cls d H) (defBody st_is_plain) (m_is_plain F) := by
  have nd := sc_is_plain.nd
  have tk : Takes (cxOf (L2.CX P w) P w K mg base N_is_plain "is_plain" (defScope st_is_plain) f cdv A outer s H E) (fun cls d _ H => E cls d H) := takes_of rfl rfl rfl rfl
  exact
    (ss_one (s_ret (e_and (e_isiT rfl T.b_isinstance (.cons rfl T.b_int L3.boot_int (.cons rfl T.b_str L3.boot_str .nil)) (by decide) (e_var 0)) (e_one (e_not (e_isi rfl T.b_isinstance rfl T.b_bool L3.boot_bool (e_var 0)))))))
theorem d_is_item (T : Top P w K mg base k F) {f : Addr} {cdv : Value} {A : Around} {outer : List PySem.Env} {s : Shared} {H : Hp} {E : XK} (hr : Room k (A.deeper (envOfC "is_item" (defScope st_is_item) s.heap.objs.size f cdv))) :
    SSs (cxOf (L2.CX P w) P w K mg base N_is_item "is_item" (defScope st_is_item) f cdv A outer s H E) (fun cls d _ H => E cls d H) (defBody st_is_item) (m_is_item F) := by
  have nd := sc_is_item.nd
  have tk : Takes (cxOf (L2.CX P w) P w K mg base N_is_item "is_item" (defScope st_is_item) f cdv A outer s H E) (fun cls d _ H => E cls d H) := takes_of rfl rfl rfl rfl
  exact
    (ss_cons (s_if (t_val (e_isi rfl T.b_isinstance rfl T.b_tuple L3.boot_tuple (e_var 0)))
    (ss_one (s_ret (e_and (e_cmp cs_le (e_callB (bs_len) rfl T.b_len L3.boot_len (a_cons (e_var 0) a_nil)) (e_gint rfl T.c_WIDEST)) (e_one (e_callB (bs_all rfl) rfl T.b_all L3.boot_all (a_cons (e_comp (own := [("one", 1)]) 20000000 rfl nd (i_tup (e_var 0)) (blkOk_by (N := N_is_item) (sc := defScope st_is_item) (by decide +kernel)) (fun _ _ _ _ _ => (g_name 1 nd)) (fun _ _ _ _ _ => ts_nil) (fun _ _ _ _ _ => (e_callP T.h_is_plain hr takes_never rfl (a_cons (e_var 1) a_nil)))) a_nil))))))
    ss_nil)
    (ss_one (s_ret (e_callP T.h_is_plain hr tk rfl (a_cons (e_var 0) a_nil)))))
theorem d_told_count (T : Top P w K mg base k F) {f : Addr} {cdv : Value} {A : Around} {outer : List PySem.Env} {s : Shared} {H : Hp} {E : XK} (hr : Room k (A.deeper (envOfC "told_count" (defScope st_told_count) s.heap.objs.size f cdv))) :
    SSs (cxOf (L2.CX P w) P w K mg base N_told_count "told_count" (defScope st_told_count) f cdv A outer s H E) (fun cls d _ H => E cls d H) (defBody st_told_count) (m_told_count F) := by
  have nd := sc_told_count.nd
  have tk : Takes (cxOf (L2.CX P w) P w K mg base N_told_count "told_count" (defScope st_told_count) f cdv A outer s H E) (fun cls d _ H => E cls d H) := takes_of rfl rfl rfl rfl
  exact
    (ss_cons (s_if (t_cmp cs_is (e_var 0) e_non)
    (ss_one (s_ret e_int))
    ss_nil)
    (ss_cons (s_if (t_w (w_or (t_not (t_val (e_isi rfl T.b_isinstance rfl T.b_tuple L3.boot_tuple (e_var 0)))) (w_or (t_cmp (cs_ne (hu64_of hr)) (e_callB (bs_len) rfl T.b_len L3.boot_len (a_cons (e_var 0) a_nil)) e_int) (w_or (t_not (t_val (e_isi rfl T.b_isinstance rfl T.b_int L3.boot_int (e_ix is_ix (e_var 0) e_int)))) (w_or1 (t_val (e_isi rfl T.b_isinstance rfl T.b_bool L3.boot_bool (e_ix is_ix (e_var 0) e_int))))))))
    (ss_one (s_ret (e_un us_neg e_int)))
    ss_nil)
    (ss_one (s_ret (e_callB (bs_max rfl) rfl T.b_max L3.boot_max (a_cons (e_un us_neg e_int) (a_cons (e_ix is_ix (e_var 0) e_int) a_nil)))))))
theorem d_is_even_of (T : Top P w K mg base k F) {f : Addr} {cdv : Value} {A : Around} {outer : List PySem.Env} {s : Shared} {H : Hp} {E : XK} (hr : Room k (A.deeper (envOfC "is_even_of" (defScope st_is_even_of) s.heap.objs.size f cdv))) :
    SSs (cxOf (L2.CX P w) P w K mg base N_is_even_of "is_even_of" (defScope st_is_even_of) f cdv A outer s H E) (fun cls d _ H => E cls d H) (defBody st_is_even_of) (m_is_even_of F) := by
  have nd := sc_is_even_of.nd
  have tk : Takes (cxOf (L2.CX P w) P w K mg base N_is_even_of "is_even_of" (defScope st_is_even_of) f cdv A outer s H E) (fun cls d _ H => E cls d H) := takes_of rfl rfl rfl rfl
  exact
    (ss_cons (s_if (t_cmp (cs_eq (hu64_of hr)) (e_var 1) e_int)
    (ss_one (s_ret (e_cmp cs_is (e_var 0) e_non)))
    ss_nil)
    (ss_cons (s_asg (sl := [3, 4, 5, 6]) (e_var 0) (g_tup rfl (gs_cons (g_name 3 nd) (gs_cons (g_name 4 nd) (gs_cons (g_name 5 nd) (gs_cons (g_name 6 nd) gs_nil))))))
    (ss_cons (s_set 2 nd (e_lst (a_cons (e_callP T.h_told_count hr tk rfl (a_cons (e_var 3) a_nil)) (a_cons (e_callP T.h_told_count hr tk rfl (a_cons (e_var 5) a_nil)) a_nil))))
    (ss_cons (s_if (t_w (w_or (t_cmp cs_lt (e_callB (bs_min rfl) rfl T.b_min L3.boot_min (a_cons (e_var 2) a_nil)) e_int) (w_or (t_cmp (cs_ne (hu64_of hr)) (e_op os_add (e_callB (bs_sum rfl) rfl T.b_sum L3.boot_sum (a_cons (e_var 2) a_nil)) e_int) (e_var 1)) (w_or (t_not (t_val (e_callP T.h_are_even hr tk rfl (a_cons (e_ix is_ix (e_var 2) e_int) (a_cons (e_ix is_ix (e_var 2) e_int) a_nil))))) (w_or1 (t_not (t_val (e_callP T.h_is_item hr tk rfl (a_cons (e_var 4) a_nil)))))))))
    (ss_one (s_ret e_bl))
    ss_nil)
    (ss_one (s_ret (e_and (e_callP T.h_is_even_of hr tk rfl (a_cons (e_var 3) (a_cons (e_ix is_ix (e_var 2) e_int) a_nil))) (e_one (e_callP T.h_is_even_of hr tk rfl (a_cons (e_var 5) (a_cons (e_ix is_ix (e_var 2) e_int) a_nil)))))))))))
theorem d_is_even (T : Top P w K mg base k F) {f : Addr} {cdv : Value} {A : Around} {outer : List PySem.Env} {s : Shared} {H : Hp} {E : XK} (hr : Room k (A.deeper (envOfC "is_even" (defScope st_is_even) s.heap.objs.size f cdv))) :
    SSs (cxOf (L2.CX P w) P w K mg base N_is_even "is_even" (defScope st_is_even) f cdv A outer s H E) (fun cls d _ H => E cls d H) (defBody st_is_even) (m_is_even F) := by
  have nd := sc_is_even.nd
  have tk : Takes (cxOf (L2.CX P w) P w K mg base N_is_even "is_even" (defScope st_is_even) f cdv A outer s H E) (fun cls d _ H => E cls d H) := takes_of rfl rfl rfl rfl
  exact
    (ss_one (s_ret (e_and (e_chain cs_le cs_le e_int (e_callP T.h_told_count hr tk rfl (a_cons (e_var 0) a_nil)) (e_gint rfl T.c_TIED)) (e_one (e_callP T.h_is_even_of hr tk rfl (a_cons (e_var 0) (a_cons (e_callP T.h_told_count hr tk rfl (a_cons (e_var 0) a_nil)) a_nil)))))))
theorem d_look_tie (T : Top P w K mg base k F) {f : Addr} {cdv : Value} {A : Around} {outer : List PySem.Env} {s : Shared} {H : Hp} {E : XK} (hr : Room k (A.deeper (envOfC "look_tie" (defScope st_look_tie) s.heap.objs.size f cdv))) :
    SSs (cxOf (L2.CX P w) P w K mg base N_look_tie "look_tie" (defScope st_look_tie) f cdv A outer s H E) (fun cls d _ H => E cls d H) (defBody st_look_tie) (m_look_tie F) := by
  have nd := sc_look_tie.nd
  have tk : Takes (cxOf (L2.CX P w) P w K mg base N_look_tie "look_tie" (defScope st_look_tie) f cdv A outer s H E) (fun cls d _ H => E cls d H) := takes_of rfl rfl rfl rfl
  exact
    (ss_one (s_if (t_not (t_val (e_callP T.h_is_even hr tk rfl (a_cons (e_var 0) a_nil))))
    (ss_one s_no)
    ss_nil))
theorem d_look_item (T : Top P w K mg base k F) {f : Addr} {cdv : Value} {A : Around} {outer : List PySem.Env} {s : Shared} {H : Hp} {E : XK} (hr : Room k (A.deeper (envOfC "look_item" (defScope st_look_item) s.heap.objs.size f cdv))) :
    SSs (cxOf (L2.CX P w) P w K mg base N_look_item "look_item" (defScope st_look_item) f cdv A outer s H E) (fun cls d _ H => E cls d H) (defBody st_look_item) (m_look_item F) := by
  have nd := sc_look_item.nd
  have tk : Takes (cxOf (L2.CX P w) P w K mg base N_look_item "look_item" (defScope st_look_item) f cdv A outer s H E) (fun cls d _ H => E cls d H) := takes_of rfl rfl rfl rfl
  exact
    (ss_one (s_if (t_w (w_or (t_not (t_val (e_isi rfl T.b_isinstance rfl T.b_int L3.boot_int (e_var 1)))) (w_or (t_val (e_isi rfl T.b_isinstance rfl T.b_bool L3.boot_bool (e_var 1))) (w_or1 (t_not (t_chain cs_le cs_le e_int (e_var 1) (e_var 2)))))))
    (ss_one s_no)
    ss_nil))
theorem d_tied (T : Top P w K mg base k F) {f : Addr} {cdv : Value} {A : Around} {outer : List PySem.Env} {s : Shared} {H : Hp} {E : XK} (hr : Room k (A.deeper (envOfC "tied" (defScope st_tied) s.heap.objs.size f cdv))) :
    SSs (cxOf (L2.CX P w) P w K mg base N_tied "tied" (defScope st_tied) f cdv A outer s H E) (fun cls d _ H => E cls d H) (defBody st_tied) (m_tied F) := by
  have nd := sc_tied.nd
  have tk : Takes (cxOf (L2.CX P w) P w K mg base N_tied "tied" (defScope st_tied) f cdv A outer s H E) (fun cls d _ H => E cls d H) := takes_of rfl rfl rfl rfl
  exact
    (ss_cons (s_if (t_w (w_or (t_not (t_val (e_isiT rfl T.b_isinstance (.cons rfl T.b_list L3.boot_list (.cons rfl T.b_tuple L3.boot_tuple .nil)) (by decide) (e_var 0)))) (w_or (t_cmp cs_gt (e_callB (bs_len) rfl T.b_len L3.boot_len (a_cons (e_var 0) a_nil)) (e_gint rfl T.c_TIED)) (w_or1 (t_not (t_val (e_callB (bs_all rfl) rfl T.b_all L3.boot_all (a_cons (e_comp (own := [("item", 1)]) 20000000 rfl nd (i_lst (e_var 0)) (blkOk_by (N := N_tied) (sc := defScope st_tied) (by decide +kernel)) (fun _ _ _ _ _ => (g_name 1 nd)) (fun _ _ _ _ _ => ts_nil) (fun _ _ _ _ _ => (e_callP T.h_is_item hr takes_never rfl (a_cons (e_var 1) a_nil)))) a_nil))))))))
    (ss_one s_no)
    ss_nil)
    (ss_one (s_ret (e_call T.h_by_halves hr tk rfl (a_cons (e_callTy bs_list rfl T.b_list L3.boot_list (a_cons (e_var 0) a_nil)) a_nil)))))
theorem d_put_at (T : Top P w K mg base k F) {f : Addr} {cdv : Value} {A : Around} {outer : List PySem.Env} {s : Shared} {H : Hp} {E : XK} (hr : Room k (A.deeper (envOfC "put_at" (defScope st_put_at) s.heap.objs.size f cdv))) :
    SSs (cxOf (L2.CX P w) P w K mg base N_put_at "put_at" (defScope st_put_at) f cdv A outer s H E) (fun cls d _ H => E cls d H) (defBody st_put_at) (m_put_at F) := by
  have nd := sc_put_at.nd
  have tk : Takes (cxOf (L2.CX P w) P w K mg base N_put_at "put_at" (defScope st_put_at) f cdv A outer s H E) (fun cls d _ H => E cls d H) := takes_of rfl rfl rfl rfl
  exact
    (ss_cons (s_exp (e_callP T.h_look_tie hr tk rfl (a_cons (e_var 0) a_nil)))
    (ss_cons (s_exp (e_callP T.h_look_item hr tk rfl (a_cons (e_var 0) (a_cons (e_var 1) (a_cons (e_callP T.h_count_of hr tk rfl (a_cons (e_var 0) a_nil)) a_nil)))))
    (ss_cons (s_if (t_w (w_or (t_not (t_val (e_callP T.h_is_item hr tk rfl (a_cons (e_var 2) a_nil)))) (w_or1 (t_cmp (cs_eq (hu64_of hr)) (e_callP T.h_count_of hr tk rfl (a_cons (e_var 0) a_nil)) (e_gint rfl T.c_TIED)))))
    (ss_one s_no)
    ss_nil)
    (ss_one (s_ret (e_callP T.h_with_more hr tk rfl (a_cons (e_var 0) (a_cons (e_var 1) (a_cons (e_var 2) a_nil)))))))))
theorem d_out_at (T : Top P w K mg base k F) {f : Addr} {cdv : Value} {A : Around} {outer : List PySem.Env} {s : Shared} {H : Hp} {E : XK} (hr : Room k (A.deeper (envOfC "out_at" (defScope st_out_at) s.heap.objs.size f cdv))) :
    SSs (cxOf (L2.CX P w) P w K mg base N_out_at "out_at" (defScope st_out_at) f cdv A outer s H E) (fun cls d _ H => E cls d H) (defBody st_out_at) (m_out_at F) := by
  have nd := sc_out_at.nd
  have tk : Takes (cxOf (L2.CX P w) P w K mg base N_out_at "out_at" (defScope st_out_at) f cdv A outer s H E) (fun cls d _ H => E cls d H) := takes_of rfl rfl rfl rfl
  exact
    (ss_cons (s_exp (e_callP T.h_look_tie hr tk rfl (a_cons (e_var 0) a_nil)))
    (ss_cons (s_exp (e_callP T.h_look_item hr tk rfl (a_cons (e_var 0) (a_cons (e_var 1) (a_cons (e_op os_sub (e_callP T.h_count_of hr tk rfl (a_cons (e_var 0) a_nil)) e_int) a_nil)))))
    (ss_one (s_ret (e_callP T.h_without_item hr tk rfl (a_cons (e_var 0) (a_cons (e_var 1) a_nil)))))))
theorem d_parted (T : Top P w K mg base k F) {f : Addr} {cdv : Value} {A : Around} {outer : List PySem.Env} {s : Shared} {H : Hp} {E : XK} (hr : Room k (A.deeper (envOfC "parted" (defScope st_parted) s.heap.objs.size f cdv))) :
    SSs (cxOf (L2.CX P w) P w K mg base N_parted "parted" (defScope st_parted) f cdv A outer s H E) (fun cls d _ H => E cls d H) (defBody st_parted) (m_parted F) := by
  have nd := sc_parted.nd
  have tk : Takes (cxOf (L2.CX P w) P w K mg base N_parted "parted" (defScope st_parted) f cdv A outer s H E) (fun cls d _ H => E cls d H) := takes_of rfl rfl rfl rfl
  exact
    (ss_cons (s_exp (e_callP T.h_look_tie hr tk rfl (a_cons (e_var 0) a_nil)))
    (ss_cons (s_exp (e_callP T.h_look_item hr tk rfl (a_cons (e_var 0) (a_cons (e_var 1) (a_cons (e_callP T.h_count_of hr tk rfl (a_cons (e_var 0) a_nil)) a_nil)))))
    (ss_one (s_ret (e_callP T.h_cut_at hr tk rfl (a_cons (e_var 0) (a_cons (e_var 1) a_nil)))))))
theorem d_tied_both (T : Top P w K mg base k F) {f : Addr} {cdv : Value} {A : Around} {outer : List PySem.Env} {s : Shared} {H : Hp} {E : XK} (hr : Room k (A.deeper (envOfC "tied_both" (defScope st_tied_both) s.heap.objs.size f cdv))) :
    SSs (cxOf (L2.CX P w) P w K mg base N_tied_both "tied_both" (defScope st_tied_both) f cdv A outer s H E) (fun cls d _ H => E cls d H) (defBody st_tied_both) (m_tied_both F) := by
  have nd := sc_tied_both.nd
  have tk : Takes (cxOf (L2.CX P w) P w K mg base N_tied_both "tied_both" (defScope st_tied_both) f cdv A outer s H E) (fun cls d _ H => E cls d H) := takes_of rfl rfl rfl rfl
  exact
    (ss_cons (s_exp (e_callP T.h_look_tie hr tk rfl (a_cons (e_var 0) a_nil)))
    (ss_cons (s_exp (e_callP T.h_look_tie hr tk rfl (a_cons (e_var 1) a_nil)))
    (ss_cons (s_if (t_cmp cs_gt (e_op os_add (e_callP T.h_count_of hr tk rfl (a_cons (e_var 0) a_nil)) (e_callP T.h_count_of hr tk rfl (a_cons (e_var 1) a_nil))) (e_gint rfl T.c_TIED))
    (ss_one s_no)
    ss_nil)
    (ss_one (s_ret (e_callP T.h_one_behind hr tk rfl (a_cons (e_var 0) (a_cons (e_var 1) a_nil))))))))
theorem d_steps_of (T : Top P w K mg base k F) {f : Addr} {cdv : Value} {A : Around} {outer : List PySem.Env} {s : Shared} {H : Hp} {E : XK} (hr : Room k (A.deeper (envOfC "steps_of" (defScope st_steps_of) s.heap.objs.size f cdv))) :
    SSs (cxOf (L2.CX P w) P w K mg base N_steps_of "steps_of" (defScope st_steps_of) f cdv A outer s H E) (fun cls d _ H => E cls d H) (defBody st_steps_of) (m_steps_of F) := by
  have nd := sc_steps_of.nd
  have tk : Takes (cxOf (L2.CX P w) P w K mg base N_steps_of "steps_of" (defScope st_steps_of) f cdv A outer s H E) (fun cls d _ H => E cls d H) := takes_of rfl rfl rfl rfl
  exact
    (ss_cons (s_set 1 nd e_int)
    (ss_cons (s_set 2 nd (e_op os_add (e_var 0) e_int))
    (ss_cons (s_while 20000000 (passes_of rfl) (t_cmp cs_ge (e_var 2) e_int)
    (ss_cons (s_set 2 nd (e_op os_div (e_op os_mul (e_var 2) e_int) e_int))
    (ss_one (s_aug 1 nd ip_add' e_int))))
    (ss_one (s_ret (e_var 1))))))
theorem d_number_tie (T : Top P w K mg base k F) {f : Addr} {cdv : Value} {A : Around} {outer : List PySem.Env} {s : Shared} {H : Hp} {E : XK} (hr : Room k (A.deeper (envOfC "number_tie" (defScope st_number_tie) s.heap.objs.size f cdv))) :
    SSs (cxOf (L2.CX P w) P w K mg base N_number_tie "number_tie" (defScope st_number_tie) f cdv A outer s H E) (fun cls d _ H => E cls d H) (defBody st_number_tie) (m_number_tie F) := by
  have nd := sc_number_tie.nd
  have tk : Takes (cxOf (L2.CX P w) P w K mg base N_number_tie "number_tie" (defScope st_number_tie) f cdv A outer s H E) (fun cls d _ H => E cls d H) := takes_of rfl rfl rfl rfl
  exact
    (ss_cons (s_if (t_cmp cs_is (e_var 0) e_non)
    (ss_one (s_ret e_int))
    ss_nil)
    (ss_cons (s_asg (sl := [3, 4, 5, 6]) (e_var 0) (g_tup rfl (gs_cons (g_name 3 nd) (gs_cons (g_name 4 nd) (gs_cons (g_name 5 nd) (gs_cons (g_name 6 nd) gs_nil))))))
    (ss_cons (s_set 2 nd (e_tup (a_cons (e_call T.h_number_tie hr tk rfl (a_cons (e_var 3) (a_cons (e_var 1) a_nil))) (a_cons (e_callB (bs_repr) rfl T.b_repr L3.boot_repr (a_cons (e_var 4) a_nil)) (a_cons (e_call T.h_number_tie hr tk rfl (a_cons (e_var 5) (a_cons (e_var 1) a_nil))) a_nil)))))
    (ss_one (s_ret (e_mt PySem.F.plainAttrs_dict PySem.F.slot_dict_setdefault PySem.F.type_dict_setdefault (ms_setdef (hu_of hr)) (e_var 1) (a_cons (e_var 2) (a_cons (e_op os_add (e_callB (bs_len) rfl T.b_len L3.boot_len (a_cons (e_var 1) a_nil)) e_int) a_nil))))))))
theorem d_fresh (T : Top P w K mg base k F) {f : Addr} {cdv : Value} {A : Around} {outer : List PySem.Env} {s : Shared} {H : Hp} {E : XK} (hr : Room k (A.deeper (envOfC "fresh" (defScope st_fresh) s.heap.objs.size f cdv))) :
    SSs (cxOf (L2.CX P w) P w K mg base N_fresh "fresh" (defScope st_fresh) f cdv A outer s H E) (fun cls d _ H => E cls d H) (defBody st_fresh) (m_fresh F) := by
  have nd := sc_fresh.nd
  have tk : Takes (cxOf (L2.CX P w) P w K mg base N_fresh "fresh" (defScope st_fresh) f cdv A outer s H E) (fun cls d _ H => E cls d H) := takes_of rfl rfl rfl rfl
  exact
    (ss_cons (s_exp (e_callP T.h_look_tie hr tk rfl (a_cons (e_var 0) a_nil)))
    (ss_cons (s_for (sl := [2]) 20000000 (passes_of rfl) rfl (i_lst (e_var 1)) (g_name 2 nd)
    (ss_one (s_exp (e_callP T.h_look_tie hr tk rfl (a_cons (e_var 2) a_nil)))))
    (ss_cons (s_set 3 nd e_dt)
    (ss_cons (s_for (sl := [2]) 20000000 (passes_of rfl) rfl (i_lst (e_var 1)) (g_name 2 nd)
    (ss_one (s_exp (e_call T.h_number_tie hr tk rfl (a_cons (e_var 2) (a_cons (e_var 3) a_nil))))))
    (ss_cons (s_set 4 nd (e_callB (bs_len) rfl T.b_len L3.boot_len (a_cons (e_var 3) a_nil)))
    (ss_cons (s_exp (e_call T.h_number_tie hr tk rfl (a_cons (e_var 0) (a_cons (e_var 3) a_nil))))
    (ss_one (s_ret (e_op os_sub (e_callB (bs_len) rfl T.b_len L3.boot_len (a_cons (e_var 3) a_nil)) (e_var 4))))))))))
theorem d__law_take (T : Top P w K mg base k F) {f : Addr} {cdv : Value} {A : Around} {outer : List PySem.Env} {s : Shared} {H : Hp} {E : XK} (hr : Room k (A.deeper (envOfC "_law_take" (defScope st__law_take) s.heap.objs.size f cdv))) :
    SSs (cxOf (L2.CX P w) P w K mg base N__law_take "_law_take" (defScope st__law_take) f cdv A outer s H E) (fun cls d _ H => E cls d H) (defBody st__law_take) (m__law_take F) := by
  have nd := sc__law_take.nd
  have tk : Takes (cxOf (L2.CX P w) P w K mg base N__law_take "_law_take" (defScope st__law_take) f cdv A outer s H E) (fun cls d _ H => E cls d H) := takes_of rfl rfl rfl rfl
  exact
    (ss_cons (s_if (t_cmp cs_gt (e_ix is_ix (e_var 0) e_int) e_int)
    (ss_cons (s_set 3 nd (e_op os_mod (e_ix is_ix (e_var 0) e_int) (e_var 1)))
    (ss_cons (s_sub (hu_of hr) (e_var 0) e_int (e_op os_div (e_ix is_ix (e_var 0) e_int) (e_var 1)))
    (ss_one (s_ret (e_var 3)))))
    ss_nil)
    (ss_cons (s_set 2 nd (e_ix is_ix (e_var 0) e_int))
    (ss_cons (s_if (t_cmp (cs_ne (hu64_of hr)) (e_ix is_ix (e_var 0) e_int) (e_lst a_nil))
    (ss_one (s_set 2 nd (e_ix is_ix (e_ix is_ix (e_var 0) e_int) (e_op os_mod (e_ix is_ix (e_var 0) e_int) (e_callB (bs_len) rfl T.b_len L3.boot_len (a_cons (e_ix is_ix (e_var 0) e_int) a_nil))))))
    ss_nil)
    (ss_cons (s_sub (hu_of hr) (e_var 0) e_int (e_op os_add (e_ix is_ix (e_var 0) e_int) e_int))
    (ss_cons (s_if (t_w (w_and (t_cmp cs_ge (e_var 2) (e_op os_pow e_int e_int)) (w_and1 (t_cmp cs_le (e_ix is_ix (e_var 0) e_int) (e_callB (bs_len) rfl T.b_len L3.boot_len (a_cons (e_ix is_ix (e_var 0) e_int) a_nil))))))
    (ss_cons (s_sub (hu_of hr) (e_var 0) e_int (e_op os_div (e_var 2) (e_var 1)))
    (ss_one (s_ret (e_op os_mod (e_var 2) (e_var 1)))))
    ss_nil)
    (ss_cons (s_set 2 nd (e_op os_mod (e_var 2) e_int))
    (ss_cons (s_sub (hu_of hr) (e_var 0) e_int (e_op os_mod (e_op os_add (e_op os_add (e_op os_mul (e_ix is_ix (e_var 0) e_int) e_int) (e_op os_mul (e_var 2) e_int)) (e_ix is_ix (e_var 0) e_int)) e_int))
    (ss_one (s_ret (e_op os_mod (e_op os_div (e_op os_mod (e_op os_mul (e_ix is_ix (e_var 0) e_int) (e_ix is_ix (e_var 0) e_int)) e_int) e_int) (e_var 1)))))))))))
theorem d__law_count (T : Top P w K mg base k F) {f : Addr} {cdv : Value} {A : Around} {outer : List PySem.Env} {s : Shared} {H : Hp} {E : XK} (hr : Room k (A.deeper (envOfC "_law_count" (defScope st__law_count) s.heap.objs.size f cdv))) :
    SSs (cxOf (L2.CX P w) P w K mg base N__law_count "_law_count" (defScope st__law_count) f cdv A outer s H E) (fun cls d _ H => E cls d H) (defBody st__law_count) (m__law_count F) := by
  have nd := sc__law_count.nd
  have tk : Takes (cxOf (L2.CX P w) P w K mg base N__law_count "_law_count" (defScope st__law_count) f cdv A outer s H E) (fun cls d _ H => E cls d H) := takes_of rfl rfl rfl rfl
  exact
    (ss_cons (s_if (t_cmp cs_is (e_var 0) e_non)
    (ss_one (s_ret e_int))
    ss_nil)
    (ss_one (s_ret (e_ix is_ix (e_var 0) e_int))))
theorem d__law_over (T : Top P w K mg base k F) {f : Addr} {cdv : Value} {A : Around} {outer : List PySem.Env} {s : Shared} {H : Hp} {E : XK} (hr : Room k (A.deeper (envOfC "_law_over" (defScope st__law_over) s.heap.objs.size f cdv))) :
    SSs (cxOf (L2.CX P w) P w K mg base N__law_over "_law_over" (defScope st__law_over) f cdv A outer s H E) (fun cls d _ H => E cls d H) (defBody st__law_over) (m__law_over F) := by
  have nd := sc__law_over.nd
  have tk : Takes (cxOf (L2.CX P w) P w K mg base N__law_over "_law_over" (defScope st__law_over) f cdv A outer s H E) (fun cls d _ H => E cls d H) := takes_of rfl rfl rfl rfl
  exact
    (ss_one (s_ret (e_tup (a_cons (e_var 0) (a_cons (e_var 1) (a_cons (e_var 2) (a_cons (e_op os_add (e_op os_add (e_callP T.h__law_count hr tk rfl (a_cons (e_var 0) a_nil)) e_int) (e_callP T.h__law_count hr tk rfl (a_cons (e_var 2) a_nil))) a_nil)))))))
theorem d__law_made (T : Top P w K mg base k F) {f : Addr} {cdv : Value} {A : Around} {outer : List PySem.Env} {s : Shared} {H : Hp} {E : XK} (hr : Room k (A.deeper (envOfC "_law_made" (defScope st__law_made) s.heap.objs.size f cdv))) :
    SSs (cxOf (L2.CX P w) P w K mg base N__law_made "_law_made" (defScope st__law_made) f cdv A outer s H E) (fun cls d _ H => E cls d H) (defBody st__law_made) (m__law_made F) := by
  have nd := sc__law_made.nd
  have tk : Takes (cxOf (L2.CX P w) P w K mg base N__law_made "_law_made" (defScope st__law_made) f cdv A outer s H E) (fun cls d _ H => E cls d H) := takes_of rfl rfl rfl rfl
  exact
    (ss_cons (s_if (t_cmp (cs_eq (hu64_of hr)) (e_var 1) (e_lst a_nil))
    (ss_one (s_ret e_non))
    ss_nil)
    (ss_cons (s_set 2 nd (e_op os_sub (e_callB (bs_len) rfl T.b_len L3.boot_len (a_cons (e_var 1) a_nil)) e_int))
    (ss_cons (s_set 3 nd (e_callB (bs_max rfl) rfl T.b_max L3.boot_max (a_cons e_int (a_cons (e_op os_sub (e_op os_div (e_op os_add (e_var 2) e_int) e_int) e_int) a_nil))))
    (ss_cons (s_set 4 nd (e_op os_div (e_var 2) e_int))
    (ss_cons (s_if (t_w (w_and (t_cmp cs_gt (e_op os_sub (e_var 2) (e_op os_mul e_int (e_var 3))) e_int) (w_and1 (t_cmp (cs_eq (hu64_of hr)) (e_call T.h__law_take hr tk rfl (a_cons (e_var 0) (a_cons e_int a_nil))) e_int))))
    (ss_one (s_set 4 nd (e_op os_add (e_var 3) (e_call T.h__law_take hr tk rfl (a_cons (e_var 0) (a_cons (e_op os_add (e_op os_sub (e_var 2) (e_op os_mul e_int (e_var 3))) e_int) a_nil))))))
    ss_nil)
    (ss_one (s_ret (e_callP T.h__law_over hr tk rfl (a_cons (e_call T.h__law_made hr tk rfl (a_cons (e_var 0) (a_cons (e_sl (e_var 1) o_none (o_some (e_var 4))) a_nil))) (a_cons (e_ix is_ix (e_var 1) (e_var 4)) (a_cons (e_call T.h__law_made hr tk rfl (a_cons (e_var 0) (a_cons (e_sl (e_var 1) (o_some (e_op os_add (e_var 4) e_int)) o_none) a_nil))) a_nil)))))))))))
theorem d__law_number (T : Top P w K mg base k F) {f : Addr} {cdv : Value} {A : Around} {outer : List PySem.Env} {s : Shared} {H : Hp} {E : XK} (hr : Room k (A.deeper (envOfC "_law_number" (defScope st__law_number) s.heap.objs.size f cdv))) :
    SSs (cxOf (L2.CX P w) P w K mg base N__law_number "_law_number" (defScope st__law_number) f cdv A outer s H E) (fun cls d _ H => E cls d H) (defBody st__law_number) (m__law_number F) := by
  have nd := sc__law_number.nd
  have tk : Takes (cxOf (L2.CX P w) P w K mg base N__law_number "_law_number" (defScope st__law_number) f cdv A outer s H E) (fun cls d _ H => E cls d H) := takes_of rfl rfl rfl rfl
  exact
    (ss_cons (s_if (t_cmp cs_is (e_var 0) e_non)
    (ss_one (s_ret e_int))
    ss_nil)
    (ss_cons (s_set 2 nd (e_tup (a_cons (e_call T.h__law_number hr tk rfl (a_cons (e_ix is_ix (e_var 0) e_int) (a_cons (e_var 1) a_nil))) (a_cons (e_ix is_ix (e_var 0) e_int) (a_cons (e_call T.h__law_number hr tk rfl (a_cons (e_ix is_ix (e_var 0) e_int) (a_cons (e_var 1) a_nil))) a_nil)))))
    (ss_one (s_ret (e_mt PySem.F.plainAttrs_dict PySem.F.slot_dict_setdefault PySem.F.type_dict_setdefault (ms_setdef (hu_of hr)) (e_var 1) (a_cons (e_var 2) (a_cons (e_op os_add (e_callB (bs_len) rfl T.b_len L3.boot_len (a_cons (e_var 1) a_nil)) e_int) a_nil)))))))
theorem d__law_deep (T : Top P w K mg base k F) {f : Addr} {cdv : Value} {A : Around} {outer : List PySem.Env} {s : Shared} {H : Hp} {E : XK} (hr : Room k (A.deeper (envOfC "_law_deep" (defScope st__law_deep) s.heap.objs.size f cdv))) :
    SSs (cxOf (L2.CX P w) P w K mg base N__law_deep "_law_deep" (defScope st__law_deep) f cdv A outer s H E) (fun cls d _ H => E cls d H) (defBody st__law_deep) (m__law_deep F) := by
  have nd := sc__law_deep.nd
  have tk : Takes (cxOf (L2.CX P w) P w K mg base N__law_deep "_law_deep" (defScope st__law_deep) f cdv A outer s H E) (fun cls d _ H => E cls d H) := takes_of rfl rfl rfl rfl
  exact
    (ss_cons (s_if (t_cmp cs_is (e_var 0) e_non)
    (ss_one (s_ret e_int))
    ss_nil)
    (ss_one (s_ret (e_op os_add e_int (e_callB (bs_max rfl) rfl T.b_max L3.boot_max (a_cons (e_callP T.h__law_deep hr tk rfl (a_cons (e_ix is_ix (e_var 0) e_int) a_nil)) (a_cons (e_callP T.h__law_deep hr tk rfl (a_cons (e_ix is_ix (e_var 0) e_int) a_nil)) a_nil)))))))
theorem d__law_new (T : Top P w K mg base k F) {f : Addr} {cdv : Value} {A : Around} {outer : List PySem.Env} {s : Shared} {H : Hp} {E : XK} (hr : Room k (A.deeper (envOfC "_law_new" (defScope st__law_new) s.heap.objs.size f cdv))) :
    SSs (cxOf (L2.CX P w) P w K mg base N__law_new "_law_new" (defScope st__law_new) f cdv A outer s H E) (fun cls d _ H => E cls d H) (defBody st__law_new) (m__law_new F) := by
  have nd := sc__law_new.nd
  have tk : Takes (cxOf (L2.CX P w) P w K mg base N__law_new "_law_new" (defScope st__law_new) f cdv A outer s H E) (fun cls d _ H => E cls d H) := takes_of rfl rfl rfl rfl
  exact
    (ss_cons (s_set 2 nd e_dt)
    (ss_cons (s_for (sl := [3]) 20000000 (passes_of rfl) rfl (i_lst (e_var 1)) (g_name 3 nd)
    (ss_one (s_exp (e_call T.h__law_number hr tk rfl (a_cons (e_var 3) (a_cons (e_var 2) a_nil))))))
    (ss_cons (s_set 4 nd (e_callB (bs_len) rfl T.b_len L3.boot_len (a_cons (e_var 2) a_nil)))
    (ss_cons (s_exp (e_call T.h__law_number hr tk rfl (a_cons (e_var 0) (a_cons (e_var 2) a_nil))))
    (ss_one (s_ret (e_op os_sub (e_callB (bs_len) rfl T.b_len L3.boot_len (a_cons (e_var 2) a_nil)) (e_var 4))))))))
theorem d__law_is_cheap (T : Top P w K mg base k F) {f : Addr} {cdv : Value} {A : Around} {outer : List PySem.Env} {s : Shared} {H : Hp} {E : XK} (hr : Room k (A.deeper (envOfC "_law_is_cheap" (defScope st__law_is_cheap) s.heap.objs.size f cdv))) :
    SSs (cxOf (L2.CX P w) P w K mg base N__law_is_cheap "_law_is_cheap" (defScope st__law_is_cheap) f cdv A outer s H E) (fun cls d _ H => E cls d H) (defBody st__law_is_cheap) (m__law_is_cheap F) := by
  have nd := sc__law_is_cheap.nd
  have tk : Takes (cxOf (L2.CX P w) P w K mg base N__law_is_cheap "_law_is_cheap" (defScope st__law_is_cheap) f cdv A outer s H E) (fun cls d _ H => E cls d H) := takes_of rfl rfl rfl rfl
  exact
    (ss_cons (s_set 2 nd (e_op os_add (e_callB (bs_sum rfl) rfl T.b_sum L3.boot_sum (a_cons (e_comp (own := [("_law_one", 6)]) 20000000 rfl nd (i_lst (e_var 1)) (blkOk_by (N := N__law_is_cheap) (sc := defScope st__law_is_cheap) (by decide +kernel)) (fun _ _ _ _ _ => (g_name 6 nd)) (fun _ _ _ _ _ => ts_nil) (fun _ _ _ _ _ => (e_callP T.h__law_count hr takes_never rfl (a_cons (e_var 6) a_nil)))) a_nil)) e_int))
    (ss_cons (s_for (sl := [3]) 20000000 (passes_of rfl) rfl (i_lst (e_var 0)) (g_name 3 nd)
    (ss_cons (s_set 4 nd (e_call T.h__law_new hr tk rfl (a_cons (e_var 3) (a_cons (e_var 1) a_nil))))
    (ss_cons (s_set 5 nd (e_op os_add e_int (e_op os_mul e_int (e_callP T.h_steps_of hr tk rfl (a_cons (e_callB (bs_min rfl) rfl T.b_min L3.boot_min (a_cons e_int (a_cons (e_var 2) a_nil))) a_nil)))))
    (ss_one (s_if (t_w (w_or (t_cmp cs_gt (e_var 4) (e_var 5)) (w_or (t_cmp (cs_ne (hu64_of hr)) (e_call T.h_fresh hr tk rfl (a_cons (e_var 3) (a_cons (e_var 1) a_nil))) (e_var 4)) (w_or1 (t_cmp cs_gt (e_callP T.h__law_deep hr tk rfl (a_cons (e_var 3) a_nil)) (e_callP T.h_steps_of hr tk rfl (a_cons (e_callP T.h__law_count hr tk rfl (a_cons (e_var 3) a_nil)) a_nil)))))))
    (ss_one (s_ret e_bl))
    ss_nil)))))
    (ss_one (s_ret e_bl))))
theorem d_law (T : Top P w K mg base k F) {f : Addr} {cdv : Value} {A : Around} {outer : List PySem.Env} {s : Shared} {H : Hp} {E : XK} (hr : Room k (A.deeper (envOfC "law" (defScope st_law) s.heap.objs.size f cdv))) :
    SSs (cxOf (L2.CX P w) P w K mg base N_law "law" (defScope st_law) f cdv A outer s H E) (fun cls d _ H => E cls d H) (defBody st_law) (m_law F) := by
  have nd := sc_law.nd
  have tk : Takes (cxOf (L2.CX P w) P w K mg base N_law "law" (defScope st_law) f cdv A outer s H E) (fun cls d _ H => E cls d H) := takes_of rfl rfl rfl rfl
  exact
    (ss_cons (s_set 1 nd (e_lst (a_cons (e_var 0) (a_cons e_int (a_cons e_int (a_cons e_int a_nil))))))
    (ss_cons (s_set 2 nd (e_call T.h__law_take hr tk rfl (a_cons (e_var 1) (a_cons e_int a_nil))))
    (ss_cons (s_if (t_cmp (cs_eq (hu64_of hr)) (e_call T.h__law_take hr tk rfl (a_cons (e_var 1) (a_cons e_int a_nil))) e_int)
    (ss_one (s_set 2 nd (e_op os_add e_int (e_call T.h__law_take hr tk rfl (a_cons (e_var 1) (a_cons e_int a_nil))))))
    ss_nil)
    (ss_cons (s_set 3 nd (e_ix is_ix (e_lst (a_cons (e_call T.h_tied hr tk rfl (a_cons (e_listRg rfl rfl T.b_list rfl T.b_range (e_var 2)) a_nil)) (a_cons (e_call T.h__law_made hr tk rfl (a_cons (e_var 1) (a_cons (e_listRg rfl rfl T.b_list rfl T.b_range (e_var 2)) a_nil))) a_nil))) (e_call T.h__law_take hr tk rfl (a_cons (e_var 1) (a_cons e_int a_nil)))))
    (ss_cons (s_for (sl := [4]) 20000000 (passes_of rfl) rfl (i_rng1 rfl T.b_range (a_cons (e_ix is_ix (e_lst (a_cons e_int (a_cons e_int a_nil))) (e_callTy bs_int rfl T.b_int L3.boot_int (a_cons (e_cmp cs_gt (e_var 2) e_int) a_nil))) a_nil)) (g_name 4 nd)
    (ss_cons (s_set 5 nd (e_call T.h__law_take hr tk rfl (a_cons (e_var 1) (a_cons e_int a_nil))))
    (ss_cons (s_set 6 nd (e_callP T.h__law_count hr tk rfl (a_cons (e_var 3) a_nil)))
    (ss_cons (s_set 7 nd (e_call T.h__law_take hr tk rfl (a_cons (e_var 1) (a_cons (e_op os_add (e_var 6) e_int) a_nil))))
    (ss_cons (s_if (t_w (w_and (t_cmp (cs_eq (hu64_of hr)) (e_var 5) e_int) (w_and1 (t_cmp cs_lt (e_var 6) e_int))))
    (ss_one (s_set 9 nd (e_lst (a_cons (e_callP T.h_put_at hr tk rfl (a_cons (e_var 3) (a_cons (e_var 7) (a_cons (e_op os_add e_int (e_var 4)) a_nil)))) a_nil))))
    (ss_one (s_if (t_w (w_and (t_cmp (cs_eq (hu64_of hr)) (e_var 5) e_int) (w_and1 (t_cmp cs_lt (e_var 7) (e_var 6)))))
    (ss_one (s_set 9 nd (e_lst (a_cons (e_callP T.h_out_at hr tk rfl (a_cons (e_var 3) (a_cons (e_var 7) a_nil))) a_nil))))
    (ss_one (s_set 9 nd (e_callTy bs_list rfl T.b_list L3.boot_list (a_cons (e_callP T.h_parted hr tk rfl (a_cons (e_var 3) (a_cons (e_var 7) a_nil))) a_nil)))))))
    (ss_cons (s_if (t_not (t_val (e_call T.h__law_is_cheap hr tk rfl (a_cons (e_var 9) (a_cons (e_lst (a_cons (e_var 3) a_nil)) a_nil)))))
    (ss_one (s_ret e_bl))
    ss_nil)
    (ss_cons (s_set 8 nd (e_lst a_nil))
    (ss_cons (s_if (t_cmp (cs_eq (hu64_of hr)) (e_callB (bs_len) rfl T.b_len L3.boot_len (a_cons (e_var 9) a_nil)) e_int)
    (ss_one (s_set 8 nd (e_lst (a_cons (e_callP T.h_tied_both hr tk rfl (a_cons (e_ix is_ix (e_var 9) e_int) (a_cons (e_ix is_ix (e_var 9) e_int) a_nil))) a_nil))))
    ss_nil)
    (ss_cons (s_if (t_not (t_val (e_call T.h__law_is_cheap hr tk rfl (a_cons (e_var 8) (a_cons (e_var 9) a_nil)))))
    (ss_one (s_ret e_bl))
    ss_nil)
    (ss_one (s_set 3 nd (e_ix is_ix (e_op os_add (e_var 8) (e_var 9)) e_int))))))))))))
    (ss_one (s_ret e_bl)))))))
theorem top_all (B : Base K mg) : ∀ k, Top P w K mg base k (Fs k)
  | 0 => { toBase := B,
           h_count_of := ⟨fun _ _ _ => rfl, let ⟨f, fd, h1, h2, h3⟩ := B.f_count_of; ⟨f, fd, _, h1, h2.kp, h3.binds, rfl, fn_zero⟩⟩,
           h_tie_over := ⟨fun _ _ _ => rfl, let ⟨f, fd, h1, h2, h3⟩ := B.f_tie_over; ⟨f, fd, _, h1, h2.kp, h3.binds, rfl, fn_zero⟩⟩,
           h_are_even := ⟨fun _ _ _ => rfl, let ⟨f, fd, h1, h2, h3⟩ := B.f_are_even; ⟨f, fd, _, h1, h2.kp, h3.binds, rfl, fn_zero⟩⟩,
           h_is_even_top := ⟨fun _ _ _ => rfl, let ⟨f, fd, h1, h2, h3⟩ := B.f_is_even_top; ⟨f, fd, _, h1, h2.kp, h3.binds, rfl, fn_zero⟩⟩,
           h_by_halves := ⟨fun _ _ _ => rfl, let ⟨f, fd, h1, h2, h3⟩ := B.f_by_halves; ⟨f, fd, _, h1, h2.kp, h3.binds, rfl, fn_zero⟩⟩,
           h_turned_left := ⟨fun _ _ _ => rfl, let ⟨f, fd, h1, h2, h3⟩ := B.f_turned_left; ⟨f, fd, _, h1, h2.kp, h3.binds, rfl, fn_zero⟩⟩,
           h_turned_right := ⟨fun _ _ _ => rfl, let ⟨f, fd, h1, h2, h3⟩ := B.f_turned_right; ⟨f, fd, _, h1, h2.kp, h3.binds, rfl, fn_zero⟩⟩,
           h_evened := ⟨fun _ _ _ => rfl, let ⟨f, fd, h1, h2, h3⟩ := B.f_evened; ⟨f, fd, _, h1, h2.kp, h3.binds, rfl, fn_zero⟩⟩,
           h_linked := ⟨fun _ _ _ => rfl, let ⟨f, fd, h1, h2, h3⟩ := B.f_linked; ⟨f, fd, _, h1, h2.kp, h3.binds, rfl, fn_zero⟩⟩,
           h_with_more := ⟨fun _ _ _ => rfl, let ⟨f, fd, h1, h2, h3⟩ := B.f_with_more; ⟨f, fd, _, h1, h2.kp, h3.binds, rfl, fn_zero⟩⟩,
           h_without_first := ⟨fun _ _ _ => rfl, let ⟨f, fd, h1, h2, h3⟩ := B.f_without_first; ⟨f, fd, _, h1, h2.kp, h3.binds, rfl, fn_zero⟩⟩,
           h_one_behind := ⟨fun _ _ _ => rfl, let ⟨f, fd, h1, h2, h3⟩ := B.f_one_behind; ⟨f, fd, _, h1, h2.kp, h3.binds, rfl, fn_zero⟩⟩,
           h_without_item := ⟨fun _ _ _ => rfl, let ⟨f, fd, h1, h2, h3⟩ := B.f_without_item; ⟨f, fd, _, h1, h2.kp, h3.binds, rfl, fn_zero⟩⟩,
           h_cut_at := ⟨fun _ _ _ => rfl, let ⟨f, fd, h1, h2, h3⟩ := B.f_cut_at; ⟨f, fd, _, h1, h2.kp, h3.binds, rfl, fn_zero⟩⟩,
           h_is_plain := ⟨fun _ _ _ => rfl, let ⟨f, fd, h1, h2, h3⟩ := B.f_is_plain; ⟨f, fd, _, h1, h2.kp, h3.binds, rfl, fn_zero⟩⟩,
           h_is_item := ⟨fun _ _ _ => rfl, let ⟨f, fd, h1, h2, h3⟩ := B.f_is_item; ⟨f, fd, _, h1, h2.kp, h3.binds, rfl, fn_zero⟩⟩,
           h_told_count := ⟨fun _ _ _ => rfl, let ⟨f, fd, h1, h2, h3⟩ := B.f_told_count; ⟨f, fd, _, h1, h2.kp, h3.binds, rfl, fn_zero⟩⟩,
           h_is_even_of := ⟨fun _ _ _ => rfl, let ⟨f, fd, h1, h2, h3⟩ := B.f_is_even_of; ⟨f, fd, _, h1, h2.kp, h3.binds, rfl, fn_zero⟩⟩,
           h_is_even := ⟨fun _ _ _ => rfl, let ⟨f, fd, h1, h2, h3⟩ := B.f_is_even; ⟨f, fd, _, h1, h2.kp, h3.binds, rfl, fn_zero⟩⟩,
           h_look_tie := ⟨fun _ _ _ => rfl, let ⟨f, fd, h1, h2, h3⟩ := B.f_look_tie; ⟨f, fd, _, h1, h2.kp, h3.binds, rfl, fn_zero⟩⟩,
           h_look_item := ⟨fun _ _ _ => rfl, let ⟨f, fd, h1, h2, h3⟩ := B.f_look_item; ⟨f, fd, _, h1, h2.kp, h3.binds, rfl, fn_zero⟩⟩,
           h_tied := ⟨fun _ _ _ => rfl, let ⟨f, fd, h1, h2, h3⟩ := B.f_tied; ⟨f, fd, _, h1, h2.kp, h3.binds, rfl, fn_zero⟩⟩,
           h_put_at := ⟨fun _ _ _ => rfl, let ⟨f, fd, h1, h2, h3⟩ := B.f_put_at; ⟨f, fd, _, h1, h2.kp, h3.binds, rfl, fn_zero⟩⟩,
           h_out_at := ⟨fun _ _ _ => rfl, let ⟨f, fd, h1, h2, h3⟩ := B.f_out_at; ⟨f, fd, _, h1, h2.kp, h3.binds, rfl, fn_zero⟩⟩,
           h_parted := ⟨fun _ _ _ => rfl, let ⟨f, fd, h1, h2, h3⟩ := B.f_parted; ⟨f, fd, _, h1, h2.kp, h3.binds, rfl, fn_zero⟩⟩,
           h_tied_both := ⟨fun _ _ _ => rfl, let ⟨f, fd, h1, h2, h3⟩ := B.f_tied_both; ⟨f, fd, _, h1, h2.kp, h3.binds, rfl, fn_zero⟩⟩,
           h_steps_of := ⟨fun _ _ _ => rfl, let ⟨f, fd, h1, h2, h3⟩ := B.f_steps_of; ⟨f, fd, _, h1, h2.kp, h3.binds, rfl, fn_zero⟩⟩,
           h_number_tie := ⟨fun _ _ _ => rfl, let ⟨f, fd, h1, h2, h3⟩ := B.f_number_tie; ⟨f, fd, _, h1, h2.kp, h3.binds, rfl, fn_zero⟩⟩,
           h_fresh := ⟨fun _ _ _ => rfl, let ⟨f, fd, h1, h2, h3⟩ := B.f_fresh; ⟨f, fd, _, h1, h2.kp, h3.binds, rfl, fn_zero⟩⟩,
           h__law_take := ⟨fun _ _ _ => rfl, let ⟨f, fd, h1, h2, h3⟩ := B.f__law_take; ⟨f, fd, _, h1, h2.kp, h3.binds, rfl, fn_zero⟩⟩,
           h__law_count := ⟨fun _ _ _ => rfl, let ⟨f, fd, h1, h2, h3⟩ := B.f__law_count; ⟨f, fd, _, h1, h2.kp, h3.binds, rfl, fn_zero⟩⟩,
           h__law_over := ⟨fun _ _ _ => rfl, let ⟨f, fd, h1, h2, h3⟩ := B.f__law_over; ⟨f, fd, _, h1, h2.kp, h3.binds, rfl, fn_zero⟩⟩,
           h__law_made := ⟨fun _ _ _ => rfl, let ⟨f, fd, h1, h2, h3⟩ := B.f__law_made; ⟨f, fd, _, h1, h2.kp, h3.binds, rfl, fn_zero⟩⟩,
           h__law_number := ⟨fun _ _ _ => rfl, let ⟨f, fd, h1, h2, h3⟩ := B.f__law_number; ⟨f, fd, _, h1, h2.kp, h3.binds, rfl, fn_zero⟩⟩,
           h__law_deep := ⟨fun _ _ _ => rfl, let ⟨f, fd, h1, h2, h3⟩ := B.f__law_deep; ⟨f, fd, _, h1, h2.kp, h3.binds, rfl, fn_zero⟩⟩,
           h__law_new := ⟨fun _ _ _ => rfl, let ⟨f, fd, h1, h2, h3⟩ := B.f__law_new; ⟨f, fd, _, h1, h2.kp, h3.binds, rfl, fn_zero⟩⟩,
           h__law_is_cheap := ⟨fun _ _ _ => rfl, let ⟨f, fd, h1, h2, h3⟩ := B.f__law_is_cheap; ⟨f, fd, _, h1, h2.kp, h3.binds, rfl, fn_zero⟩⟩,
           h_law := ⟨fun _ _ _ => rfl, let ⟨f, fd, h1, h2, h3⟩ := B.f_law; ⟨f, fd, _, h1, h2.kp, h3.binds, rfl, fn_zero⟩⟩,
         }
  | k + 1 => by
    have T := top_all B k
    exact
         { toBase := B,
           h_count_of := ⟨runF_len, let ⟨f, fd, h1, h2, h3⟩ := B.f_count_of; ⟨f, fd, _, h1, h2.kp, h3.binds, rfl, fn_ok h2 sc_count_of rfl fun _ _ _ _ _ _ hr => d_count_of T hr⟩⟩,
           h_tie_over := ⟨runF_len, let ⟨f, fd, h1, h2, h3⟩ := B.f_tie_over; ⟨f, fd, _, h1, h2.kp, h3.binds, rfl, fn_ok h2 sc_tie_over rfl fun _ _ _ _ _ _ hr => d_tie_over T hr⟩⟩,
           h_are_even := ⟨runF_len, let ⟨f, fd, h1, h2, h3⟩ := B.f_are_even; ⟨f, fd, _, h1, h2.kp, h3.binds, rfl, fn_ok h2 sc_are_even rfl fun _ _ _ _ _ _ hr => d_are_even T hr⟩⟩,
           h_is_even_top := ⟨runF_len, let ⟨f, fd, h1, h2, h3⟩ := B.f_is_even_top; ⟨f, fd, _, h1, h2.kp, h3.binds, rfl, fn_ok h2 sc_is_even_top rfl fun _ _ _ _ _ _ hr => d_is_even_top T hr⟩⟩,
           h_by_halves := ⟨runF_len, let ⟨f, fd, h1, h2, h3⟩ := B.f_by_halves; ⟨f, fd, _, h1, h2.kp, h3.binds, rfl, fn_ok h2 sc_by_halves rfl fun _ _ _ _ _ _ hr => d_by_halves T hr⟩⟩,
           h_turned_left := ⟨runF_len, let ⟨f, fd, h1, h2, h3⟩ := B.f_turned_left; ⟨f, fd, _, h1, h2.kp, h3.binds, rfl, fn_ok h2 sc_turned_left rfl fun _ _ _ _ _ _ hr => d_turned_left T hr⟩⟩,
           h_turned_right := ⟨runF_len, let ⟨f, fd, h1, h2, h3⟩ := B.f_turned_right; ⟨f, fd, _, h1, h2.kp, h3.binds, rfl, fn_ok h2 sc_turned_right rfl fun _ _ _ _ _ _ hr => d_turned_right T hr⟩⟩,
           h_evened := ⟨runF_len, let ⟨f, fd, h1, h2, h3⟩ := B.f_evened; ⟨f, fd, _, h1, h2.kp, h3.binds, rfl, fn_ok h2 sc_evened rfl fun _ _ _ _ _ _ hr => d_evened T hr⟩⟩,
           h_linked := ⟨runF_len, let ⟨f, fd, h1, h2, h3⟩ := B.f_linked; ⟨f, fd, _, h1, h2.kp, h3.binds, rfl, fn_ok h2 sc_linked rfl fun _ _ _ _ _ _ hr => d_linked T hr⟩⟩,
           h_with_more := ⟨runF_len, let ⟨f, fd, h1, h2, h3⟩ := B.f_with_more; ⟨f, fd, _, h1, h2.kp, h3.binds, rfl, fn_ok h2 sc_with_more rfl fun _ _ _ _ _ _ hr => d_with_more T hr⟩⟩,
           h_without_first := ⟨runF_len, let ⟨f, fd, h1, h2, h3⟩ := B.f_without_first; ⟨f, fd, _, h1, h2.kp, h3.binds, rfl, fn_ok h2 sc_without_first rfl fun _ _ _ _ _ _ hr => d_without_first T hr⟩⟩,
           h_one_behind := ⟨runF_len, let ⟨f, fd, h1, h2, h3⟩ := B.f_one_behind; ⟨f, fd, _, h1, h2.kp, h3.binds, rfl, fn_ok h2 sc_one_behind rfl fun _ _ _ _ _ _ hr => d_one_behind T hr⟩⟩,
           h_without_item := ⟨runF_len, let ⟨f, fd, h1, h2, h3⟩ := B.f_without_item; ⟨f, fd, _, h1, h2.kp, h3.binds, rfl, fn_ok h2 sc_without_item rfl fun _ _ _ _ _ _ hr => d_without_item T hr⟩⟩,
           h_cut_at := ⟨runF_len, let ⟨f, fd, h1, h2, h3⟩ := B.f_cut_at; ⟨f, fd, _, h1, h2.kp, h3.binds, rfl, fn_ok h2 sc_cut_at rfl fun _ _ _ _ _ _ hr => d_cut_at T hr⟩⟩,
           h_is_plain := ⟨runF_len, let ⟨f, fd, h1, h2, h3⟩ := B.f_is_plain; ⟨f, fd, _, h1, h2.kp, h3.binds, rfl, fn_ok h2 sc_is_plain rfl fun _ _ _ _ _ _ hr => d_is_plain T hr⟩⟩,
           h_is_item := ⟨runF_len, let ⟨f, fd, h1, h2, h3⟩ := B.f_is_item; ⟨f, fd, _, h1, h2.kp, h3.binds, rfl, fn_ok h2 sc_is_item rfl fun _ _ _ _ _ _ hr => d_is_item T hr⟩⟩,
           h_told_count := ⟨runF_len, let ⟨f, fd, h1, h2, h3⟩ := B.f_told_count; ⟨f, fd, _, h1, h2.kp, h3.binds, rfl, fn_ok h2 sc_told_count rfl fun _ _ _ _ _ _ hr => d_told_count T hr⟩⟩,
           h_is_even_of := ⟨runF_len, let ⟨f, fd, h1, h2, h3⟩ := B.f_is_even_of; ⟨f, fd, _, h1, h2.kp, h3.binds, rfl, fn_ok h2 sc_is_even_of rfl fun _ _ _ _ _ _ hr => d_is_even_of T hr⟩⟩,
           h_is_even := ⟨runF_len, let ⟨f, fd, h1, h2, h3⟩ := B.f_is_even; ⟨f, fd, _, h1, h2.kp, h3.binds, rfl, fn_ok h2 sc_is_even rfl fun _ _ _ _ _ _ hr => d_is_even T hr⟩⟩,
           h_look_tie := ⟨runF_len, let ⟨f, fd, h1, h2, h3⟩ := B.f_look_tie; ⟨f, fd, _, h1, h2.kp, h3.binds, rfl, fn_ok h2 sc_look_tie rfl fun _ _ _ _ _ _ hr => d_look_tie T hr⟩⟩,
           h_look_item := ⟨runF_len, let ⟨f, fd, h1, h2, h3⟩ := B.f_look_item; ⟨f, fd, _, h1, h2.kp, h3.binds, rfl, fn_ok h2 sc_look_item rfl fun _ _ _ _ _ _ hr => d_look_item T hr⟩⟩,
           h_tied := ⟨runF_len, let ⟨f, fd, h1, h2, h3⟩ := B.f_tied; ⟨f, fd, _, h1, h2.kp, h3.binds, rfl, fn_ok h2 sc_tied rfl fun _ _ _ _ _ _ hr => d_tied T hr⟩⟩,
           h_put_at := ⟨runF_len, let ⟨f, fd, h1, h2, h3⟩ := B.f_put_at; ⟨f, fd, _, h1, h2.kp, h3.binds, rfl, fn_ok h2 sc_put_at rfl fun _ _ _ _ _ _ hr => d_put_at T hr⟩⟩,
           h_out_at := ⟨runF_len, let ⟨f, fd, h1, h2, h3⟩ := B.f_out_at; ⟨f, fd, _, h1, h2.kp, h3.binds, rfl, fn_ok h2 sc_out_at rfl fun _ _ _ _ _ _ hr => d_out_at T hr⟩⟩,
           h_parted := ⟨runF_len, let ⟨f, fd, h1, h2, h3⟩ := B.f_parted; ⟨f, fd, _, h1, h2.kp, h3.binds, rfl, fn_ok h2 sc_parted rfl fun _ _ _ _ _ _ hr => d_parted T hr⟩⟩,
           h_tied_both := ⟨runF_len, let ⟨f, fd, h1, h2, h3⟩ := B.f_tied_both; ⟨f, fd, _, h1, h2.kp, h3.binds, rfl, fn_ok h2 sc_tied_both rfl fun _ _ _ _ _ _ hr => d_tied_both T hr⟩⟩,
           h_steps_of := ⟨runF_len, let ⟨f, fd, h1, h2, h3⟩ := B.f_steps_of; ⟨f, fd, _, h1, h2.kp, h3.binds, rfl, fn_ok h2 sc_steps_of rfl fun _ _ _ _ _ _ hr => d_steps_of T hr⟩⟩,
           h_number_tie := ⟨runF_len, let ⟨f, fd, h1, h2, h3⟩ := B.f_number_tie; ⟨f, fd, _, h1, h2.kp, h3.binds, rfl, fn_ok h2 sc_number_tie rfl fun _ _ _ _ _ _ hr => d_number_tie T hr⟩⟩,
           h_fresh := ⟨runF_len, let ⟨f, fd, h1, h2, h3⟩ := B.f_fresh; ⟨f, fd, _, h1, h2.kp, h3.binds, rfl, fn_ok h2 sc_fresh rfl fun _ _ _ _ _ _ hr => d_fresh T hr⟩⟩,
           h__law_take := ⟨runF_len, let ⟨f, fd, h1, h2, h3⟩ := B.f__law_take; ⟨f, fd, _, h1, h2.kp, h3.binds, rfl, fn_ok h2 sc__law_take rfl fun _ _ _ _ _ _ hr => d__law_take T hr⟩⟩,
           h__law_count := ⟨runF_len, let ⟨f, fd, h1, h2, h3⟩ := B.f__law_count; ⟨f, fd, _, h1, h2.kp, h3.binds, rfl, fn_ok h2 sc__law_count rfl fun _ _ _ _ _ _ hr => d__law_count T hr⟩⟩,
           h__law_over := ⟨runF_len, let ⟨f, fd, h1, h2, h3⟩ := B.f__law_over; ⟨f, fd, _, h1, h2.kp, h3.binds, rfl, fn_ok h2 sc__law_over rfl fun _ _ _ _ _ _ hr => d__law_over T hr⟩⟩,
           h__law_made := ⟨runF_len, let ⟨f, fd, h1, h2, h3⟩ := B.f__law_made; ⟨f, fd, _, h1, h2.kp, h3.binds, rfl, fn_ok h2 sc__law_made rfl fun _ _ _ _ _ _ hr => d__law_made T hr⟩⟩,
           h__law_number := ⟨runF_len, let ⟨f, fd, h1, h2, h3⟩ := B.f__law_number; ⟨f, fd, _, h1, h2.kp, h3.binds, rfl, fn_ok h2 sc__law_number rfl fun _ _ _ _ _ _ hr => d__law_number T hr⟩⟩,
           h__law_deep := ⟨runF_len, let ⟨f, fd, h1, h2, h3⟩ := B.f__law_deep; ⟨f, fd, _, h1, h2.kp, h3.binds, rfl, fn_ok h2 sc__law_deep rfl fun _ _ _ _ _ _ hr => d__law_deep T hr⟩⟩,
           h__law_new := ⟨runF_len, let ⟨f, fd, h1, h2, h3⟩ := B.f__law_new; ⟨f, fd, _, h1, h2.kp, h3.binds, rfl, fn_ok h2 sc__law_new rfl fun _ _ _ _ _ _ hr => d__law_new T hr⟩⟩,
           h__law_is_cheap := ⟨runF_len, let ⟨f, fd, h1, h2, h3⟩ := B.f__law_is_cheap; ⟨f, fd, _, h1, h2.kp, h3.binds, rfl, fn_ok h2 sc__law_is_cheap rfl fun _ _ _ _ _ _ hr => d__law_is_cheap T hr⟩⟩,
           h_law := ⟨runF_len, let ⟨f, fd, h1, h2, h3⟩ := B.f_law; ⟨f, fd, _, h1, h2.kp, h3.binds, rfl, fn_ok h2 sc_law rfl fun _ _ _ _ _ _ hr => d_law T hr⟩⟩,
         }
end
end K68

set_option Elab.async false
set_option linter.all false
namespace K68

/-! ### ties as a type -/
inductive T where
  | nil
  | node (l : T) (x : Int) (r : T)
  deriving DecidableEq
def T.sz : T → Nat
  | .nil => 0
  | .node l _ r => l.sz + 1 + r.sz
def T.ht : T → Nat
  | .nil => 0
  | .node l _ r => 1 + max l.ht r.ht
def ev (a b : Nat) : Bool := decide (a + 1 ≤ 3 * (b + 1)) && decide (b + 1 ≤ 3 * (a + 1))
theorem ev_iff {a b : Nat} : ev a b = true ↔ a + 1 ≤ 3 * (b + 1) ∧ b + 1 ≤ 3 * (a + 1) := by unfold ev; simp
theorem ev_not {a b : Nat} : ev a b = false ↔ ¬ (a + 1 ≤ 3 * (b + 1) ∧ b + 1 ≤ 3 * (a + 1)) := by rw [← ev_iff]; simp
def T.even : T → Bool
  | .nil => true
  | .node l _ r => ev l.sz r.sz && (l.even && r.even)
theorem even_node {l r : T} {x : Int} : (T.node l x r).even = true ↔ (l.sz + 1 ≤ 3 * (r.sz + 1) ∧ r.sz + 1 ≤ 3 * (l.sz + 1)) ∧ l.even = true ∧ r.even = true := by
  show (ev l.sz r.sz && (l.even && r.even)) = true ↔ _
  rw [Bool.and_eq_true, Bool.and_eq_true, ev_iff]
def tl (l : T) (x : Int) (r : T) : T := match r with
  | .nil => .node l x r
  | .node i o u => if ev l.sz i.sz && ev (l.sz + 1 + i.sz) u.sz then .node (.node l x i) o u else match i with
    | .nil => .node l x r
    | .node b m e => .node (.node l x b) m (.node e o u)
def tr (l : T) (x : Int) (r : T) : T := match l with
  | .nil => .node l x r
  | .node u o i => if ev r.sz i.sz && ev (r.sz + 1 + i.sz) u.sz then .node u o (.node i x r) else match i with
    | .nil => .node l x r
    | .node b m e => .node (.node u o b) m (.node e x r)
def evd (l : T) (x : Int) (r : T) : T := if ev l.sz r.sz then .node l x r else if l.sz < r.sz then tl l x r else tr l x r
theorem sz_tl (l : T) (x : Int) (r : T) : (tl l x r).sz = l.sz + 1 + r.sz := by
  unfold tl
  split
  · rfl
  · split
    · simp only [T.sz]; omega
    · split
      · rfl
      · simp only [T.sz]; omega
theorem sz_tr (l : T) (x : Int) (r : T) : (tr l x r).sz = l.sz + 1 + r.sz := by
  unfold tr
  split
  · rfl
  · split
    · simp only [T.sz]; omega
    · split
      · rfl
      · simp only [T.sz]; omega
theorem sz_evd (l : T) (x : Int) (r : T) : (evd l x r).sz = l.sz + 1 + r.sz := by
  unfold evd
  split
  · rfl
  · split
    · exact sz_tl l x r
    · exact sz_tr l x r
/-- how far two weights may be apart ahead of a turn: c the lighter one's, s the heavier one's -/
def Off (c s : Nat) : Prop := s ≤ 3 * c + 3 ∨ 3 * s ≤ 13 * c
theorem double_ok {c p q b e : Nat} (hc : 1 ≤ c) (hp : 1 ≤ p) (hb : 1 ≤ b) (he : 1 ≤ e) (hq : q = b + e) (h1 : p ≤ 3 * q) (h2 : q ≤ 3 * p) (h3 : b ≤ 3 * e) (h4 : e ≤ 3 * b) (hs : 3 * c < p + q) (ho : Off c (p + q))
    (hn : ¬ ((c ≤ 3 * q ∧ q ≤ 3 * c) ∧ (c + q ≤ 3 * p ∧ p ≤ 3 * (c + q)))) :
    (p ≤ 3 * b ∧ b ≤ 3 * p) ∧ (e ≤ 3 * c ∧ c ≤ 3 * e) ∧ (p + b ≤ 3 * (e + c) ∧ e + c ≤ 3 * (p + b)) := by
  rcases ho with ho | ho
  · by_cases h : c ≤ 2
    · have : c = 1 ∨ c = 2 := by omega
      rcases this with rfl | rfl <;> refine ⟨⟨?_, ?_⟩, ⟨?_, ?_⟩, ?_, ?_⟩ <;> omega
    · refine ⟨⟨?_, ?_⟩, ⟨?_, ?_⟩, ?_, ?_⟩ <;> omega
  · refine ⟨⟨?_, ?_⟩, ⟨?_, ?_⟩, ?_, ?_⟩ <;> omega
theorem inner_some {c p q : Nat} (hc : 1 ≤ c) (hp : 1 ≤ p) (h2 : q ≤ 3 * p) (h1 : p ≤ 3 * q) (hs : 3 * c < p + q) (ho : Off c (p + q))
    (hn : ¬ ((c ≤ 3 * q ∧ q ≤ 3 * c) ∧ (c + q ≤ 3 * p ∧ p ≤ 3 * (c + q)))) : 2 ≤ q := by
  rcases ho with ho | ho <;> omega
theorem even_tl {l r : T} {x : Int} (hl : l.even = true) (hr : r.even = true) (hs : 3 * (l.sz + 1) < r.sz + 1) (ho : Off (l.sz + 1) (r.sz + 1)) : (tl l x r).even = true := by
  unfold tl
  split
  · simp only [T.sz] at hs; omega
  · rename_i i o u
    obtain ⟨⟨h1, h2⟩, h3, h4⟩ := even_node.mp hr
    simp only [T.sz] at hs ho
    have es : i.sz + 1 + u.sz + 1 = (u.sz + 1) + (i.sz + 1) := by omega
    rw [es] at hs ho
    split
    · rename_i h
      rw [Bool.and_eq_true, ev_iff, ev_iff] at h
      refine even_node.mpr ⟨⟨?_, ?_⟩, even_node.mpr ⟨h.1, hl, h3⟩, h4⟩
      · simp only [T.sz]; omega
      · simp only [T.sz]; omega
    · rename_i h
      have hn : ¬ ((l.sz + 1 ≤ 3 * (i.sz + 1) ∧ i.sz + 1 ≤ 3 * (l.sz + 1)) ∧ ((l.sz + 1) + (i.sz + 1) ≤ 3 * (u.sz + 1) ∧ u.sz + 1 ≤ 3 * ((l.sz + 1) + (i.sz + 1)))) := fun z => h (by
        rw [Bool.and_eq_true, ev_iff, ev_iff]
        exact ⟨z.1, by omega, by omega⟩)
      split
      · have := inner_some (c := l.sz + 1) (p := u.sz + 1) (q := T.nil.sz + 1) (by omega) (by omega) h1 h2 hs ho hn
        simp only [T.sz] at this; omega
      · rename_i b m e
        obtain ⟨⟨g1, g2⟩, g3, g4⟩ := even_node.mp h3
        obtain ⟨⟨a1, a2⟩, ⟨a3, a4⟩, a5, a6⟩ := double_ok (c := l.sz + 1) (p := u.sz + 1) (q := (T.node b m e).sz + 1) (b := e.sz + 1) (e := b.sz + 1) (by omega) (by omega) (by omega) (by omega) (by simp only [T.sz]; omega) h2 h1 g2 g1 hs ho hn
        refine even_node.mpr ⟨⟨?_, ?_⟩, even_node.mpr ⟨⟨a4, a3⟩, hl, g3⟩, even_node.mpr ⟨⟨a2, a1⟩, g4, h4⟩⟩
        · simp only [T.sz]; omega
        · simp only [T.sz]; omega
theorem even_tr {l r : T} {x : Int} (hl : l.even = true) (hr : r.even = true) (hs : 3 * (r.sz + 1) < l.sz + 1) (ho : Off (r.sz + 1) (l.sz + 1)) : (tr l x r).even = true := by
  unfold tr
  split
  · simp only [T.sz] at hs; omega
  · rename_i u o i
    obtain ⟨⟨h1, h2⟩, h4, h3⟩ := even_node.mp hl
    simp only [T.sz] at hs ho
    have es : u.sz + 1 + i.sz + 1 = (u.sz + 1) + (i.sz + 1) := by omega
    rw [es] at hs ho
    split
    · rename_i h
      rw [Bool.and_eq_true, ev_iff, ev_iff] at h
      refine even_node.mpr ⟨⟨?_, ?_⟩, h4, even_node.mpr ⟨⟨h.1.2, h.1.1⟩, h3, hr⟩⟩
      · simp only [T.sz]; omega
      · simp only [T.sz]; omega
    · rename_i h
      have hn : ¬ ((r.sz + 1 ≤ 3 * (i.sz + 1) ∧ i.sz + 1 ≤ 3 * (r.sz + 1)) ∧ ((r.sz + 1) + (i.sz + 1) ≤ 3 * (u.sz + 1) ∧ u.sz + 1 ≤ 3 * ((r.sz + 1) + (i.sz + 1)))) := fun z => h (by
        rw [Bool.and_eq_true, ev_iff, ev_iff]
        exact ⟨z.1, by omega, by omega⟩)
      split
      · have := inner_some (c := r.sz + 1) (p := u.sz + 1) (q := T.nil.sz + 1) (by omega) (by omega) h2 h1 hs ho hn
        simp only [T.sz] at this; omega
      · rename_i b m e
        obtain ⟨⟨g1, g2⟩, g3, g4⟩ := even_node.mp h3
        obtain ⟨⟨a1, a2⟩, ⟨a3, a4⟩, a5, a6⟩ := double_ok (c := r.sz + 1) (p := u.sz + 1) (q := (T.node b m e).sz + 1) (b := b.sz + 1) (e := e.sz + 1) (by omega) (by omega) (by omega) (by omega) (by simp only [T.sz]; omega) h1 h2 g1 g2 hs ho hn
        refine even_node.mpr ⟨⟨?_, ?_⟩, even_node.mpr ⟨⟨a1, a2⟩, h4, g3⟩, even_node.mpr ⟨⟨a3, a4⟩, g4, hr⟩⟩
        · simp only [T.sz]; omega
        · simp only [T.sz]; omega
theorem even_evd {l r : T} {x : Int} (hl : l.even = true) (hr : r.even = true) (h1 : Off (l.sz + 1) (r.sz + 1)) (h2 : Off (r.sz + 1) (l.sz + 1)) : (evd l x r).even = true := by
  unfold evd
  split
  · rename_i h
    exact even_node.mpr ⟨ev_iff.mp h, hl, hr⟩
  · rename_i h
    have hn : ¬ (l.sz + 1 ≤ 3 * (r.sz + 1) ∧ r.sz + 1 ≤ 3 * (l.sz + 1)) := fun z => h (ev_iff.mpr z)
    split
    · exact even_tl hl hr (by omega) h1
    · exact even_tr hl hr (by omega) h2

/-! ### the deeds -/
def lnk (l : T) (x : Int) (r : T) : T := if ev l.sz r.sz then .node l x r else if l.sz < r.sz then (match h : r with
    | .nil => .nil
    | .node i o u => evd (lnk l x i) o u)
  else match h : l with
    | .nil => .nil
    | .node u o i => evd u o (lnk i x r)
termination_by l.sz + r.sz
decreasing_by all_goals (subst h; simp only [T.sz]; omega)
def more : T → Nat → Int → T
  | .nil, _, v => .node .nil v .nil
  | .node l x r, k, v => if k ≤ l.sz then evd (more l k v) x r else evd l x (more r (k - l.sz - 1) v)
def first : T → Int × T
  | .nil => (0, .nil)
  | .node .nil x r => (x, r)
  | .node l x r => ((first l).1, evd (first l).2 x r)
def both (a b : T) : T := match b with
  | .nil => a
  | b => lnk a (first b).1 (first b).2
def less : T → Nat → T
  | .nil, _ => .nil
  | .node l x r, k => if k < l.sz then evd (less l k) x r else if l.sz < k then evd l x (less r (k - l.sz - 1)) else if l = .nil then r else if r = .nil then l else evd l (first r).1 (first r).2
def cut : T → Nat → T × T
  | .nil, _ => (.nil, .nil)
  | .node l x r, k => if k ≤ l.sz then ((cut l k).1, lnk (cut l k).2 x r) else (lnk l x (cut r (k - l.sz - 1)).1, (cut r (k - l.sz - 1)).2)

theorem lnk_ev {l r : T} {x : Int} (h : ev l.sz r.sz = true) : lnk l x r = .node l x r := by rw [lnk.eq_def, if_pos h]
theorem lnk_r {l i u : T} {x o : Int} (h : ev l.sz (T.node i o u).sz = false) (hl : l.sz < (T.node i o u).sz) : lnk l x (.node i o u) = evd (lnk l x i) o u := by
  rw [lnk.eq_def, if_neg (by rw [h]; exact Bool.false_ne_true), if_pos hl]
theorem lnk_l {u i r : T} {x o : Int} (h : ev (T.node u o i).sz r.sz = false) (hl : ¬ (T.node u o i).sz < r.sz) : lnk (.node u o i) x r = evd u o (lnk i x r) := by
  rw [lnk.eq_def, if_neg (by rw [h]; exact Bool.false_ne_true), if_neg hl]
/-- the three ways of linked -/
theorem lnk_cases (l : T) (x : Int) (r : T) : (ev l.sz r.sz = true ∧ lnk l x r = .node l x r) ∨
    (ev l.sz r.sz = false ∧ l.sz < r.sz ∧ ∃ i o u, r = .node i o u ∧ lnk l x r = evd (lnk l x i) o u) ∨
    (ev l.sz r.sz = false ∧ r.sz < l.sz ∧ ∃ u o i, l = .node u o i ∧ lnk l x r = evd u o (lnk i x r)) := by
  cases h : ev l.sz r.sz with
  | true => exact .inl ⟨rfl, lnk_ev h⟩
  | false =>
    have hn := ev_not.mp h
    by_cases hl : l.sz < r.sz
    · cases r with
      | nil => simp only [T.sz] at hl; omega
      | node i o u => exact .inr (.inl ⟨rfl, hl, i, o, u, rfl, lnk_r h hl⟩)
    · cases l with
      | nil => simp only [T.sz] at hl hn; omega
      | node u o i => exact .inr (.inr ⟨rfl, by omega, u, o, i, rfl, lnk_l h hl⟩)
theorem sz_lnk : ∀ (n : Nat) (l : T) (x : Int) (r : T), l.sz + r.sz ≤ n → (lnk l x r).sz = l.sz + 1 + r.sz
  | n, l, x, r, hn => by
    rcases lnk_cases l x r with ⟨_, e⟩ | ⟨_, _, i, o, u, rfl, e⟩ | ⟨_, _, u, o, i, rfl, e⟩
    · rw [e]; rfl
    · simp only [T.sz] at hn
      rw [e, sz_evd, sz_lnk (n - 1) l x i (by omega)]; simp only [T.sz]; omega
    · simp only [T.sz] at hn
      rw [e, sz_evd, sz_lnk (n - 1) i x r (by omega)]; simp only [T.sz]; omega
termination_by n => n
decreasing_by all_goals omega
theorem sz_lnk' (l : T) (x : Int) (r : T) : (lnk l x r).sz = l.sz + 1 + r.sz := sz_lnk _ l x r (Nat.le_refl _)
theorem even_lnk : ∀ (n : Nat) (l : T) (x : Int) (r : T), l.sz + r.sz ≤ n → l.even = true → r.even = true → (lnk l x r).even = true
  | n, l, x, r, hn, hl, hr => by
    rcases lnk_cases l x r with ⟨h, e⟩ | ⟨h, hs, i, o, u, rfl, e⟩ | ⟨h, hs, u, o, i, rfl, e⟩
    · rw [e]; exact even_node.mpr ⟨ev_iff.mp h, hl, hr⟩
    · have h := ev_not.mp h
      obtain ⟨⟨h1, h2⟩, h3, h4⟩ := even_node.mp hr
      simp only [T.sz] at hn hs h
      rw [e]
      refine even_evd (even_lnk (n - 1) l x i (by omega) hl h3) h4 ?_ ?_
      · rw [sz_lnk']; exact .inl (by omega)
      · rw [sz_lnk']; exact .inr (by omega)
    · have h := ev_not.mp h
      obtain ⟨⟨h1, h2⟩, h4, h3⟩ := even_node.mp hl
      simp only [T.sz] at hn hs h
      rw [e]
      refine even_evd h4 (even_lnk (n - 1) i x r (by omega) h3 hr) ?_ ?_
      · rw [sz_lnk']; exact .inr (by omega)
      · rw [sz_lnk']; exact .inl (by omega)
termination_by n => n
decreasing_by all_goals omega
theorem even_lnk' {l r : T} {x : Int} (hl : l.even = true) (hr : r.even = true) : (lnk l x r).even = true := even_lnk _ l x r (Nat.le_refl _) hl hr

theorem sz_more : ∀ (t : T) (k : Nat) (v : Int), (more t k v).sz = t.sz + 1
  | .nil, _, _ => rfl
  | .node l x r, k, v => by
    unfold more
    split
    · rw [sz_evd, sz_more l]; simp only [T.sz]; omega
    · rw [sz_evd, sz_more r]; simp only [T.sz]; omega
theorem even_more : ∀ (t : T) (k : Nat) (v : Int), t.even = true → (more t k v).even = true
  | .nil, _, _, _ => by show (ev 0 0 && (true && true)) = true; decide
  | .node l x r, k, v, h => by
    obtain ⟨⟨h1, h2⟩, h3, h4⟩ := even_node.mp h
    unfold more
    split
    · refine even_evd (even_more l k v h3) h4 ?_ ?_
      · rw [sz_more]; exact .inl (by omega)
      · rw [sz_more]; exact .inl (by omega)
    · refine even_evd h3 (even_more r _ v h4) ?_ ?_
      · rw [sz_more]; exact .inl (by omega)
      · rw [sz_more]; exact .inl (by omega)
theorem first_node {l r : T} {x : Int} (h : l ≠ .nil) : first (.node l x r) = ((first l).1, evd (first l).2 x r) := by
  cases l with
  | nil => exact absurd rfl h
  | node a b c => rw [first]; intro z; cases z
theorem sz_first : ∀ (t : T), t ≠ .nil → (first t).2.sz + 1 = t.sz
  | .nil, h => absurd rfl h
  | .node .nil x r, _ => by rw [first]; simp only [T.sz]; omega
  | .node (.node a b c) x r, _ => by
    rw [first_node (by intro z; cases z)]
    have := sz_first (.node a b c) (by intro z; cases z)
    rw [sz_evd]; simp only [T.sz] at this ⊢; omega
theorem even_first : ∀ (t : T), t.even = true → (first t).2.even = true
  | .nil, _ => rfl
  | .node .nil x r, h => by rw [first]; exact (even_node.mp h).2.2
  | .node (.node a b c) x r, h => by
    obtain ⟨⟨h1, h2⟩, h3, h4⟩ := even_node.mp h
    rw [first_node (by intro z; cases z)]
    have hs := sz_first (.node a b c) (by intro z; cases z)
    refine even_evd (even_first _ h3) h4 ?_ ?_
    · exact .inl (by omega)
    · exact .inl (by omega)
theorem sz_both (a b : T) : (both a b).sz = a.sz + b.sz := by
  cases b with
  | nil => rfl
  | node l x r =>
    have := sz_first (.node l x r) (by intro z; cases z)
    show (lnk a _ _).sz = _
    rw [sz_lnk']; omega
theorem even_both {a b : T} (ha : a.even = true) (hb : b.even = true) : (both a b).even = true := by
  cases b with
  | nil => exact ha
  | node l x r => exact even_lnk' ha (even_first _ hb)
theorem sz_less : ∀ (t : T) (k : Nat), k < t.sz → (less t k).sz + 1 = t.sz
  | .nil, k, h => by simp only [T.sz] at h; omega
  | .node l x r, k, h => by
    simp only [T.sz] at h
    unfold less
    split
    · have := sz_less l k (by omega)
      rw [sz_evd]; simp only [T.sz]; omega
    · split
      · have := sz_less r (k - l.sz - 1) (by omega)
        rw [sz_evd]; simp only [T.sz]; omega
      · split
        · rename_i e; subst e; simp only [T.sz]; omega
        · split
          · rename_i e; subst e; show l.sz + 1 = l.sz + 1 + 0; omega
          · rename_i e
            have := sz_first r e
            rw [sz_evd]; simp only [T.sz]; omega
theorem even_less : ∀ (t : T) (k : Nat), k < t.sz → t.even = true → (less t k).even = true
  | .nil, k, h, _ => by simp only [T.sz] at h; omega
  | .node l x r, k, h, hv => by
    obtain ⟨⟨h1, h2⟩, h3, h4⟩ := even_node.mp hv
    simp only [T.sz] at h
    unfold less
    split
    · have := sz_less l k (by omega)
      exact even_evd (even_less l k (by omega) h3) h4 (.inl (by omega)) (.inl (by omega))
    · split
      · have := sz_less r (k - l.sz - 1) (by omega)
        exact even_evd h3 (even_less r _ (by omega) h4) (.inl (by omega)) (.inl (by omega))
      · split
        · exact h4
        · split
          · exact h3
          · rename_i e
            have := sz_first r e
            exact even_evd h3 (even_first r h4) (.inl (by omega)) (.inl (by omega))
theorem sz_cut : ∀ (t : T) (k : Nat), k ≤ t.sz → (cut t k).1.sz = k ∧ (cut t k).2.sz = t.sz - k
  | .nil, k, h => ⟨by show 0 = k; have : k ≤ 0 := h; omega, by show 0 = 0 - k; omega⟩
  | .node l x r, k, h => by
    simp only [T.sz] at h
    unfold cut
    split
    · obtain ⟨a, b⟩ := sz_cut l k (by omega)
      refine ⟨a, ?_⟩
      show (lnk _ _ _).sz = _
      rw [sz_lnk', b]; simp only [T.sz]; omega
    · obtain ⟨a, b⟩ := sz_cut r (k - l.sz - 1) (by omega)
      refine ⟨?_, ?_⟩
      · show (lnk _ _ _).sz = _
        rw [sz_lnk', a]; omega
      · show (cut r _).2.sz = _
        rw [b]; simp only [T.sz]; omega
theorem even_cut : ∀ (t : T) (k : Nat), t.even = true → (cut t k).1.even = true ∧ (cut t k).2.even = true
  | .nil, k, _ => ⟨rfl, rfl⟩
  | .node l x r, k, h => by
    obtain ⟨_, h3, h4⟩ := even_node.mp h
    unfold cut
    split
    · exact ⟨(even_cut l k h3).1, even_lnk' (even_cut l k h3).2 h4⟩
    · exact ⟨even_lnk' h3 (even_cut r _ h4).1, (even_cut r _ h4).2⟩

/-! ### steps -/
def lg (w : Nat) : Nat := if w < 2 then 0 else 1 + lg (3 * w / 4)
termination_by w
decreasing_by omega
theorem lg_lt {w : Nat} (h : w < 2) : lg w = 0 := by rw [lg, if_pos h]
theorem lg_ge {w : Nat} (h : 2 ≤ w) : lg w = 1 + lg (3 * w / 4) := by rw [lg, if_neg (by omega)]
theorem lg_mono : ∀ (b a : Nat), a ≤ b → lg a ≤ lg b
  | b, a, h => by
    by_cases ha : a < 2
    · rw [lg_lt ha]; omega
    · rw [lg_ge (by omega : 2 ≤ a), lg_ge (by omega : 2 ≤ b)]
      have := lg_mono (3 * b / 4) (3 * a / 4) (by omega)
      omega
termination_by b => b
decreasing_by omega
/-- a kid's weight -/
theorem lg_kid {a b w : Nat} (hw : 2 ≤ w) (h : a + b = w) (h1 : a ≤ 3 * b) : lg a + 1 ≤ lg w := by
  rw [lg_ge hw]
  have := lg_mono (3 * w / 4) a (by omega)
  omega
theorem ht_lg : ∀ (t : T), t.even = true → t.ht ≤ lg (t.sz + 1)
  | .nil, _ => by simp only [T.ht]; omega
  | .node l x r, h => by
    obtain ⟨⟨h1, h2⟩, h3, h4⟩ := even_node.mp h
    have a := ht_lg l h3
    have b := ht_lg r h4
    have c := lg_kid (a := l.sz + 1) (b := r.sz + 1) (w := (T.node l x r).sz + 1) (by simp only [T.sz]; omega) (by simp only [T.sz]; omega) h1
    have d := lg_kid (a := r.sz + 1) (b := l.sz + 1) (w := (T.node l x r).sz + 1) (by simp only [T.sz]; omega) (by simp only [T.sz]; omega) h2
    simp only [T.ht]
    omega
end K68

set_option Elab.async false
set_option linter.all false
namespace K68

/-! ### new ties: those that stand in nothing that was there -/
def occ (S : T → Bool) : T → Nat
  | .nil => 0
  | .node l x r => if S (.node l x r) then 0 else 1 + occ S l + occ S r
def Cl (S : T → Bool) : Prop := ∀ l x r, S (.node l x r) = true → (l = .nil ∨ S l = true) ∧ (r = .nil ∨ S r = true)
def Old (S : T → Bool) (t : T) : Prop := t = .nil ∨ S t = true
section
variable {S : T → Bool}
theorem occ_old {t : T} (h : Old S t) : occ S t = 0 := by
  rcases h with rfl | h
  · rfl
  · cases t with
    | nil => rfl
    | node l x r => show (if S (.node l x r) then 0 else _) = 0; rw [if_pos h]
theorem occ_node (l : T) (x : Int) (r : T) : occ S (.node l x r) ≤ 1 + occ S l + occ S r := by
  show (if S (.node l x r) then 0 else 1 + occ S l + occ S r) ≤ _
  split <;> omega
theorem occ_kids (C : Cl S) (l : T) (x : Int) (r : T) : occ S l + occ S r ≤ occ S (.node l x r) := by
  show _ ≤ (if S (.node l x r) then 0 else 1 + occ S l + occ S r)
  split
  · rename_i h
    obtain ⟨a, b⟩ := C l x r h
    rw [occ_old a, occ_old b]; omega
  · omega
theorem occ_tl (C : Cl S) (l : T) (x : Int) (r : T) : occ S (tl l x r) ≤ 3 + occ S l + occ S r := by
  unfold tl
  split
  · have := occ_node (S := S) l x .nil; omega
  · rename_i i o u
    have k1 := occ_kids C i o u
    split
    · have a := occ_node (S := S) (.node l x i) o u
      have b := occ_node (S := S) l x i
      omega
    · split
      · have := occ_node (S := S) l x (.node .nil o u); omega
      · rename_i b m e _
        have k2 := occ_kids C b m e
        have a1 := occ_node (S := S) (.node l x b) m (.node e o u)
        have a2 := occ_node (S := S) l x b
        have a3 := occ_node (S := S) e o u
        omega
theorem occ_tr (C : Cl S) (l : T) (x : Int) (r : T) : occ S (tr l x r) ≤ 3 + occ S l + occ S r := by
  unfold tr
  split
  · have := occ_node (S := S) .nil x r; omega
  · rename_i u o i
    have k1 := occ_kids C u o i
    split
    · have a := occ_node (S := S) u o (.node i x r)
      have b := occ_node (S := S) i x r
      omega
    · split
      · have := occ_node (S := S) (.node u o .nil) x r; omega
      · rename_i b m e _
        have k2 := occ_kids C b m e
        have a1 := occ_node (S := S) (.node u o b) m (.node e x r)
        have a2 := occ_node (S := S) u o b
        have a3 := occ_node (S := S) e x r
        omega
theorem occ_evd (C : Cl S) (l : T) (x : Int) (r : T) : occ S (evd l x r) ≤ 3 + occ S l + occ S r := by
  unfold evd
  split
  · have := occ_node (S := S) l x r; omega
  · split
    · exact occ_tl C l x r
    · exact occ_tr C l x r
theorem w_pos (t : T) : 1 ≤ t.sz + 1 := by omega
/-- linked, the right one heavier -/
theorem occ_lnk_r (C : Cl S) : ∀ (r l : T) (x : Int), r.even = true → 3 * (l.sz + 1) < r.sz + 1 → occ S (lnk l x r) + 3 * lg (l.sz + 1) ≤ 3 * lg (r.sz + 1) + 4 + occ S l + occ S r
  | .nil, l, x, _, h => by simp only [T.sz] at h; omega
  | .node i o u, l, x, hr, h => by
    obtain ⟨⟨h1, h2⟩, h3, h4⟩ := even_node.mp hr
    have hw : (T.node i o u).sz + 1 = (i.sz + 1) + (u.sz + 1) := by simp only [T.sz]; omega
    rw [hw] at h ⊢
    rw [lnk_r (ev_not.mpr (by simp only [T.sz]; omega)) (by simp only [T.sz]; omega)]
    have a := occ_evd C (lnk l x i) o u
    have k := occ_kids C i o u
    rcases lnk_cases l x i with ⟨hv, e⟩ | ⟨hv, hs, _⟩ | ⟨hv, hs, _⟩
    · rw [e] at a ⊢
      have b := occ_node (S := S) l x i
      have c := lg_mono ((i.sz + 1) + (u.sz + 1)) (l.sz + 1) (by omega)
      omega
    · have hv := ev_not.mp hv
      have ih := occ_lnk_r C i l x h3 (by omega)
      have c := lg_kid (a := i.sz + 1) (b := u.sz + 1) (w := (i.sz + 1) + (u.sz + 1)) (by omega) rfl h1
      omega
    · have hv := ev_not.mp hv
      omega
/-- linked, the left one heavier -/
theorem occ_lnk_l (C : Cl S) : ∀ (l r : T) (x : Int), l.even = true → 3 * (r.sz + 1) < l.sz + 1 → occ S (lnk l x r) + 3 * lg (r.sz + 1) ≤ 3 * lg (l.sz + 1) + 4 + occ S l + occ S r
  | .nil, r, x, _, h => by simp only [T.sz] at h; omega
  | .node u o i, r, x, hr, h => by
    obtain ⟨⟨h1, h2⟩, h4, h3⟩ := even_node.mp hr
    have hw : (T.node u o i).sz + 1 = (u.sz + 1) + (i.sz + 1) := by simp only [T.sz]; omega
    rw [hw] at h ⊢
    rw [lnk_l (ev_not.mpr (by simp only [T.sz]; omega)) (by simp only [T.sz]; omega)]
    have a := occ_evd C u o (lnk i x r)
    have k := occ_kids C u o i
    rcases lnk_cases i x r with ⟨hv, e⟩ | ⟨hv, hs, _⟩ | ⟨hv, hs, _⟩
    · rw [e] at a ⊢
      have b := occ_node (S := S) i x r
      have c := lg_mono ((u.sz + 1) + (i.sz + 1)) (r.sz + 1) (by omega)
      omega
    · have hv := ev_not.mp hv
      omega
    · have hv := ev_not.mp hv
      have ih := occ_lnk_l C i r x h3 (by omega)
      have c := lg_kid (a := i.sz + 1) (b := u.sz + 1) (w := (u.sz + 1) + (i.sz + 1)) (by omega) (by omega) h2
      omega
theorem occ_lnk (C : Cl S) (l r : T) (x : Int) (hl : l.even = true) (hr : r.even = true) : occ S (lnk l x r) ≤ 3 * lg (l.sz + 1 + r.sz + 1) + 4 + occ S l + occ S r := by
  rcases lnk_cases l x r with ⟨hv, e⟩ | ⟨hv, hs, _⟩ | ⟨hv, hs, _⟩
  · rw [e]; have := occ_node (S := S) l x r; omega
  · have hv := ev_not.mp hv
    have a := occ_lnk_r C r l x hr (by omega)
    have b := lg_mono (l.sz + 1 + r.sz + 1) (r.sz + 1) (by omega)
    omega
  · have hv := ev_not.mp hv
    have a := occ_lnk_l C l r x hl (by omega)
    have b := lg_mono (l.sz + 1 + r.sz + 1) (l.sz + 1) (by omega)
    omega
theorem old_kids (C : Cl S) {l r : T} {x : Int} (h : Old S (.node l x r)) : Old S l ∧ Old S r := by
  rcases h with h | h
  · cases h
  · exact C l x r h
theorem occ_more (C : Cl S) : ∀ (t : T) (k : Nat) (v : Int), Old S t → occ S (more t k v) ≤ 3 * t.ht + 1
  | .nil, k, v, _ => by
    have := occ_node (S := S) .nil v .nil
    show occ S (.node .nil v .nil) ≤ _
    have e : occ S .nil = 0 := rfl
    omega
  | .node l x r, k, v, h => by
    obtain ⟨a, b⟩ := old_kids C h
    have ea := occ_old a
    have eb := occ_old b
    unfold more
    simp only [T.ht]
    split
    · have := occ_evd C (more l k v) x r
      have := occ_more C l k v a
      omega
    · have := occ_evd C l x (more r (k - l.sz - 1) v)
      have := occ_more C r (k - l.sz - 1) v b
      omega
theorem occ_first (C : Cl S) : ∀ (t : T), Old S t → occ S (first t).2 ≤ 3 * t.ht
  | .nil, _ => by show occ S .nil ≤ _; exact Nat.zero_le _
  | .node .nil x r, h => by
    rw [first]
    rw [occ_old (old_kids C h).2]
    exact Nat.zero_le _
  | .node (.node p q s) x r, h => by
    obtain ⟨a, b⟩ := old_kids C h
    rw [first_node (by intro z; cases z)]
    have e1 := occ_evd C (first (.node p q s)).2 x r
    have e2 := occ_first C (.node p q s) a
    have eb := occ_old b
    show occ S (evd _ x r) ≤ 3 * (1 + max (T.node p q s).ht r.ht)
    omega
theorem occ_both (C : Cl S) (a b : T) (ha : a.even = true) (hb : b.even = true) (oa : Old S a) (ob : Old S b) : occ S (both a b) ≤ 6 * lg (a.sz + b.sz + 1) + 4 := by
  cases b with
  | nil => show occ S a ≤ _; rw [occ_old oa]; exact Nat.zero_le _
  | node l x r =>
    have hf := sz_first (.node l x r) (by intro z; cases z)
    show occ S (lnk a _ _) ≤ _
    have e1 := occ_lnk C a (first (.node l x r)).2 (first (.node l x r)).1 ha (even_first _ hb)
    have e2 := occ_first C (.node l x r) ob
    have e3 := ht_lg _ hb
    have ea := occ_old oa
    have e4 := lg_mono (a.sz + (T.node l x r).sz + 1) ((T.node l x r).sz + 1) (by omega)
    have e5 : a.sz + 1 + (first (.node l x r)).2.sz + 1 = a.sz + (T.node l x r).sz + 1 := by omega
    rw [e5] at e1
    omega
theorem occ_less (C : Cl S) : ∀ (t : T) (k : Nat), Old S t → occ S (less t k) ≤ 3 * t.ht + 3
  | .nil, k, _ => Nat.zero_le _
  | .node l x r, k, h => by
    obtain ⟨a, b⟩ := old_kids C h
    have ea := occ_old a
    have eb := occ_old b
    unfold less
    simp only [T.ht]
    split
    · have := occ_evd C (less l k) x r
      have := occ_less C l k a
      omega
    · split
      · have := occ_evd C l x (less r (k - l.sz - 1))
        have := occ_less C r (k - l.sz - 1) b
        omega
      · split
        · omega
        · split
          · omega
          · have := occ_evd C l (first r).1 (first r).2
            have := occ_first C r b
            omega
theorem occ_cut (C : Cl S) : ∀ (t : T) (k : Nat), k ≤ t.sz → t.even = true → Old S t →
    occ S (cut t k).1 ≤ 3 * lg ((cut t k).1.sz + 1) + 4 * t.ht ∧ occ S (cut t k).2 ≤ 3 * lg ((cut t k).2.sz + 1) + 4 * t.ht
  | .nil, k, _, _, _ => ⟨Nat.zero_le _, Nat.zero_le _⟩
  | .node l x r, k, hk, hv, h => by
    obtain ⟨a, b⟩ := old_kids C h
    have ea := occ_old a
    have eb := occ_old b
    obtain ⟨⟨h1, h2⟩, h3, h4⟩ := even_node.mp hv
    simp only [T.sz] at hk
    unfold cut
    simp only [T.ht]
    split
    · rename_i hkl
      obtain ⟨i1, i2⟩ := occ_cut C l k hkl h3 a
      obtain ⟨s1, s2⟩ := sz_cut l k hkl
      refine ⟨by show occ S (cut l k).1 ≤ 3 * lg ((cut l k).1.sz + 1) + _; omega, ?_⟩
      generalize he : (cut l k).2 = e at *
      have hev : e.even = true := by rw [← he]; exact (even_cut l k h3).2
      show occ S (lnk e x r) ≤ 3 * lg ((lnk e x r).sz + 1) + _
      rw [sz_lnk']
      have m1 := lg_mono (e.sz + 1 + r.sz + 1) (e.sz + 1) (by omega)
      have m2 := lg_mono (e.sz + 1 + r.sz + 1) (r.sz + 1) (by omega)
      rcases lnk_cases e x r with ⟨hv, q⟩ | ⟨hv, hs, _⟩ | ⟨hv, hs, _⟩
      · rw [q]; have := occ_node (S := S) e x r; omega
      · have hv := ev_not.mp hv
        have := occ_lnk_r C r e x h4 (by omega)
        omega
      · have hv := ev_not.mp hv
        omega
    · rename_i hkl
      obtain ⟨i1, i2⟩ := occ_cut C r (k - l.sz - 1) (by omega) h4 b
      obtain ⟨s1, s2⟩ := sz_cut r (k - l.sz - 1) (by omega)
      refine ⟨?_, by show occ S (cut r (k - l.sz - 1)).2 ≤ 3 * lg ((cut r (k - l.sz - 1)).2.sz + 1) + _; omega⟩
      generalize he : (cut r (k - l.sz - 1)).1 = e at *
      have hev : e.even = true := by rw [← he]; exact (even_cut r _ h4).1
      show occ S (lnk l x e) ≤ 3 * lg ((lnk l x e).sz + 1) + _
      rw [sz_lnk']
      have m1 := lg_mono (l.sz + 1 + e.sz + 1) (e.sz + 1) (by omega)
      have m2 := lg_mono (l.sz + 1 + e.sz + 1) (l.sz + 1) (by omega)
      rcases lnk_cases l x e with ⟨hv, q⟩ | ⟨hv, hs, _⟩ | ⟨hv, hs, _⟩
      · rw [q]; have := occ_node (S := S) l x e; omega
      · have hv := ev_not.mp hv
        omega
      · have hv := ev_not.mp hv
        have := occ_lnk_l C l e x h3 (by omega)
        omega
end

/-! ### numbers for ties -/
abbrev Kv := List ((Nat × Int × Nat) × Nat)
def lk (kv : Kv) (k : Nat × Int × Nat) : Option Nat := (kv.find? fun p => decide (p.1 = k)).map (·.2)
def num : T → Kv → Nat × Kv
  | .nil, kv => (0, kv)
  | .node l x r, kv => match lk (num r (num l kv).2).2 ((num l kv).1, x, (num r (num l kv).2).1) with
    | some n => (n, (num r (num l kv).2).2)
    | none => ((num r (num l kv).2).2.length + 1, (num r (num l kv).2).2 ++ [(((num l kv).1, x, (num r (num l kv).2).1), (num r (num l kv).2).2.length + 1)])
def Ext (kv kv' : Kv) : Prop := ∀ k n, lk kv k = some n → lk kv' k = some n
def Kn (kv : Kv) : T → Nat → Prop
  | .nil, n => n = 0
  | .node l x r, n => ∃ a b, Kn kv l a ∧ Kn kv r b ∧ lk kv (a, x, b) = some n
theorem Ext.refl {kv : Kv} : Ext kv kv := fun _ _ h => h
theorem Ext.trans {a b c : Kv} (h : Ext a b) (g : Ext b c) : Ext a c := fun k n e => g k n (h k n e)
theorem Kn.mono {kv kv' : Kv} (h : Ext kv kv') : ∀ {t : T} {n : Nat}, Kn kv t n → Kn kv' t n
  | .nil, _, e => e
  | .node l x r, n, ⟨a, b, h1, h2, h3⟩ => ⟨a, b, Kn.mono h h1, Kn.mono h h2, h _ _ h3⟩
theorem num_kn {kv : Kv} : ∀ {t : T} {n : Nat}, Kn kv t n → num t kv = (n, kv)
  | .nil, n, e => by cases e; rfl
  | .node l x r, n, ⟨a, b, h1, h2, h3⟩ => by
    have e1 := num_kn h1
    have e2 := num_kn h2
    unfold num
    rw [e1]
    simp only
    rw [e2]
    simp only
    rw [h3]
theorem lk_app {kv : Kv} {k : Nat × Int × Nat} {n : Nat} (h : lk kv k = none) : lk (kv ++ [(k, n)]) k = some n := by
  unfold lk at h ⊢
  rw [Option.map_eq_none_iff] at h
  rw [List.find?_append, h]
  simp
theorem ext_app {kv : Kv} {k : Nat × Int × Nat} {n : Nat} : Ext kv (kv ++ [(k, n)]) := fun j m e => by
  unfold lk at e ⊢
  rw [Option.map_eq_some_iff] at e
  obtain ⟨p, e, rfl⟩ := e
  rw [List.find?_append, e]; rfl
theorem num_ok {S : T → Bool} : ∀ (t : T) (kv : Kv), (∀ s, S s = true → ∃ m, Kn kv s m) → Kn (num t kv).2 t (num t kv).1 ∧ Ext kv (num t kv).2 ∧ (num t kv).2.length ≤ kv.length + occ S t
  | .nil, kv, _ => ⟨rfl, Ext.refl, by show kv.length ≤ kv.length + 0; omega⟩
  | .node l x r, kv, h => by
    by_cases hs : S (.node l x r) = true
    · obtain ⟨m, hm⟩ := h _ hs
      rw [num_kn hm]
      exact ⟨hm, Ext.refl, by show kv.length ≤ _; omega⟩
    · obtain ⟨a1, a2, a3⟩ := num_ok l kv h
      obtain ⟨b1, b2, b3⟩ := num_ok r (num l kv).2 fun s q => let ⟨m, hm⟩ := h s q; ⟨m, hm.mono a2⟩
      have eo : occ S (.node l x r) = 1 + occ S l + occ S r := by
        show (if S (.node l x r) then 0 else 1 + occ S l + occ S r) = _
        rw [if_neg hs]
      rw [eo]
      unfold num
      split
      · rename_i n e
        exact ⟨⟨_, _, a1.mono b2, b1, e⟩, a2.trans b2, by show (num r (num l kv).2).2.length ≤ _; omega⟩
      · rename_i e
        refine ⟨⟨_, _, (a1.mono b2).mono ext_app, b1.mono ext_app, lk_app e⟩, (a2.trans b2).trans ext_app, ?_⟩
        show ((num r (num l kv).2).2 ++ [_]).length ≤ _
        rw [List.length_append]
        simp only [List.length_cons, List.length_nil]
        omega
/-- the ties within a tie -/
def subs : T → List T
  | .nil => []
  | .node l x r => .node l x r :: (subs l ++ subs r)
theorem subs_kid : ∀ {t l r : T} {x : Int}, .node l x r ∈ subs t → (l = .nil ∨ l ∈ subs t) ∧ (r = .nil ∨ r ∈ subs t)
  | .nil, l, r, x, h => by simp [subs] at h
  | .node a y b, l, r, x, h => by
    have self : ∀ s : T, s = .nil ∨ s ∈ subs s := fun s => by cases s <;> simp [subs]
    simp only [subs, List.mem_cons, List.mem_append] at h ⊢
    rcases h with h | h | h
    · injection h with e1 e2 e3
      rw [e1, e3]
      exact ⟨(self a).imp id fun z => .inr (.inl z), (self b).imp id fun z => .inr (.inr z)⟩
    · obtain ⟨p, q⟩ := subs_kid h
      exact ⟨p.imp id fun z => .inr (.inl z), q.imp id fun z => .inr (.inl z)⟩
    · obtain ⟨p, q⟩ := subs_kid h
      exact ⟨p.imp id fun z => .inr (.inr z), q.imp id fun z => .inr (.inr z)⟩
theorem kn_subs {kv : Kv} : ∀ {t : T} {n : Nat}, Kn kv t n → ∀ s ∈ subs t, ∃ m, Kn kv s m
  | .nil, _, _, s, h => by simp [subs] at h
  | .node l x r, n, hk, s, h => by
    obtain ⟨a, b, h1, h2, h3⟩ := id hk
    simp only [subs, List.mem_cons, List.mem_append] at h
    rcases h with h | h | h
    · exact ⟨n, h ▸ hk⟩
    · exact kn_subs h1 s h
    · exact kn_subs h2 s h
def nums : List T → Kv → Kv
  | [], kv => kv
  | t :: r, kv => nums r (num t kv).2
def inSome (some : List T) (t : T) : Bool := some.any fun s => (subs s).contains t
theorem cl_some (some : List T) : Cl (inSome some) := fun l x r h => by
  simp only [inSome, List.any_eq_true, List.contains_iff_mem] at h ⊢
  obtain ⟨s, hs, h⟩ := h
  obtain ⟨p, q⟩ := subs_kid h
  exact ⟨p.imp id fun z => ⟨s, hs, z⟩, q.imp id fun z => ⟨s, hs, z⟩⟩
theorem old_some {some : List T} {t : T} (h : t ∈ some) : Old (inSome some) t := by
  cases t with
  | nil => exact .inl rfl
  | node l x r =>
    refine .inr ?_
    simp only [inSome, List.any_eq_true, List.contains_iff_mem]
    exact ⟨_, h, by simp [subs]⟩
theorem ext_nums : ∀ (some : List T) (kv : Kv), Ext kv (nums some kv)
  | [], kv => Ext.refl
  | t :: r, kv => (num_ok (S := fun _ => false) t kv fun _ h => by cases h).2.1.trans (ext_nums r _)
theorem kn_nums : ∀ (some : List T) (kv : Kv) (t : T), t ∈ some → ∃ n, Kn (nums some kv) t n
  | t :: r, kv, s, h => by
    rcases List.mem_cons.mp h with e | h
    · subst e
      exact ⟨_, (num_ok (S := fun _ => false) s kv fun _ h => by cases h).1.mono (ext_nums r _)⟩
    · exact kn_nums r _ s h
/-- the count of new ties is no more than the ties that stand in nothing that was there -/
def newc (t : T) (some : List T) : Nat := (num t (nums some [])).2.length - (nums some []).length
theorem newc_le (t : T) (some : List T) : newc t some ≤ occ (inSome some) t := by
  have := (num_ok (S := inSome some) t (nums some []) fun s h => by
    simp only [inSome, List.any_eq_true, List.contains_iff_mem] at h
    obtain ⟨u, hu, h⟩ := h
    obtain ⟨n, hn⟩ := kn_nums some [] u hu
    exact kn_subs hn s h).2.2
  unfold newc
  omega
end K68

set_option Elab.async false
set_option linter.all false
set_option maxRecDepth 100000
set_option maxHeartbeats 4000000
namespace K68
open PySem PySem.Spec PyProof.Rows L2 L3

/-! ### ties as data -/
def enc : T → D
  | .nil => .non
  | .node l x r => .tup [enc l, .int x, enc r, .int ((l.sz + 1 + r.sz : Nat) : Int)]
theorem enc_pure : ∀ t : T, (enc t).pure = true
  | .nil => rfl
  | .node l x r => by simp [enc, D.pure, D.pures, enc_pure l, enc_pure r]
def callP (F : FN) (ds : List D) (S : Store) : Res D := if D.pures ds then (match F ds [] with
  | .ok d _ => if d.pure then .ok d S else .no
  | .exc c fs _ => if fsPure fs then .exc c fs S else .no
  | .no => .no) else .no
theorem mCallP_eq (F : FN) (a : MA) (E : En) (S : Store) : mCallP F a E S = (a E S).then (callP F) := rfl
theorem callP_of {F : FN} {ds : List D} {d : D} {G : Store} (h : F ds [] = .ok d G) (p : D.pures ds = true) (q : d.pure = true) (S : Store) : callP F ds S = .ok d S := by
  unfold callP
  rw [if_pos p, h]
  simp only [q, if_true]
theorem isD_enc (t : T) (S : Store) : isD (enc t) .non S = some (.bl (decide (t = .nil)), S) := by
  cases t <;> rfl
theorem Fs_s {n c : Nat} (h : c + 1 ≤ n) : ∃ m, n = m + 1 ∧ c ≤ m := ⟨n - 1, by omega, by omega⟩
theorem Fs_i (m i : Nat) : Fs (m + 1) i = bod (Fs m) i := rfl
theorem then_ok {α β : Type} (a : α) (S : Store) (f : α → Store → Res β) : Res.then (.ok a S) f = f a S := rfl
theorem thenS_ok {α : Type} (E : En) (a : α) (S : Store) (f : α → Store → SR) : Res.thenS E (.ok a S) f = f a S := rfl
theorem thenS_nx (E : En) (S : Store) (f : En → Store → SR) : SR.thenS (.nx E S) f = f E S := rfl
theorem thenS_ret (d : D) (S : Store) (f : En → Store → SR) : SR.thenS (.ret d S) f = .ret d S := rfl
theorem res_ret (d : D) (S : Store) : SR.res (.ret d S) = .ok d S := rfl
theorem res_nx (E : En) (S : Store) : SR.res (.nx E S) = .ok .non S := rfl
theorem of_some (d : D) (S : Store) : Res.of (some (d, S)) = .ok d S := rfl
theorem add_int (i j : Int) (S : Store) : addD (.int i) (.int j) S = some (.int (i + j), S) := rfl
theorem sub_int (i j : Int) (S : Store) : subD (.int i) (.int j) S = some (.int (i - j), S) := rfl
theorem mul_int (i j : Int) (S : Store) (h : (-18446744073709551616 < i ∧ i < 18446744073709551616) ∨ (-18446744073709551616 < j ∧ j < 18446744073709551616)) : mulD (.int i) (.int j) S = some (.int (i * j), S) := if_pos h
theorem div_int (i j : Int) (S : Store) (h : 0 < j ∧ j < 1073741824) : divD (.int i) (.int j) S = some (.int (i / j), S) := if_pos h
theorem mod_int (i j : Int) (S : Store) (h : 0 < j) : modD (.int i) (.int j) S = some (.int (i % j), S) := if_pos h
theorem lt_int (i j : Int) (S : Store) : ltD (.int i) (.int j) S = some (.bl (decide (i < j)), S) := rfl
theorem le_int (i j : Int) (S : Store) : leD (.int i) (.int j) S = some (.bl (decide (i ≤ j)), S) := rfl
theorem gt_int (i j : Int) (S : Store) : gtD (.int i) (.int j) S = some (.bl (decide (j < i)), S) := rfl
theorem ge_int (i j : Int) (S : Store) : geD (.int i) (.int j) S = some (.bl (decide (j ≤ i)), S) := rfl
theorem eq_int (i j : Int) (S : Store) : eqD (.int i) (.int j) S = some (.bl (decide (i = j)), S) := rfl
theorem ne_int (i j : Int) (S : Store) : neD (.int i) (.int j) S = some (.bl (!decide (i = j)), S) := rfl
theorem bl_bl (b : Bool) (S : Store) : truD (.bl b) S = some b := rfl
theorem c_count {n : Nat} (h : 1 ≤ n) (t : T) (S : Store) : callP (Fs n 0) [enc t] S = .ok (.int t.sz) S := by
  obtain ⟨m, rfl, h'⟩ := Fs_s (c := 0) h
  refine callP_of (G := []) ?_ (by simp [D.pures, enc_pure]) rfl S
  cases t with
  | nil => simp (disch := omega) only [Fs_i, bod, runF, List.length_cons, List.length_nil, Nat.zero_add, Nat.reduceAdd, if_true, if_false, List.map_cons, List.map_nil, Nat.reduceSub, List.replicate, List.cons_append, List.nil_append, sSeq, sIf, sRet, sSet, sAsg, sExp, sNil, mVar, mC, mOp, mFn, mUn, mNil, mCons, mTru, mBl, mNotT, mAndT, mOrT, mAnd, mOr, mNot, mChain, mCallP_eq, mCall, then_ok, thenS_ok, thenS_nx, thenS_ret, res_ret, res_nx, of_some, gT, gN, gsCons, gsNil, List.getElem?_cons_zero, List.getElem?_cons_succ, List.set_cons_zero, List.set_cons_succ, add_int, sub_int, mul_int, div_int, mod_int, lt_int, le_int, gt_int, ge_int, eq_int, ne_int, bl_bl, isD_enc, fTup, Nat.reduceLeDiff, reduceIte, decide_true, decide_false, Bool.not_true, Bool.not_false, Bool.false_eq_true, m_count_of, enc]; rfl
  | node l x r => simp (disch := omega) only [Fs_i, bod, runF, List.length_cons, List.length_nil, Nat.zero_add, Nat.reduceAdd, if_true, if_false, List.map_cons, List.map_nil, Nat.reduceSub, List.replicate, List.cons_append, List.nil_append, sSeq, sIf, sRet, sSet, sAsg, sExp, sNil, mVar, mC, mOp, mFn, mUn, mNil, mCons, mTru, mBl, mNotT, mAndT, mOrT, mAnd, mOr, mNot, mChain, mCallP_eq, mCall, then_ok, thenS_ok, thenS_nx, thenS_ret, res_ret, res_nx, of_some, gT, gN, gsCons, gsNil, List.getElem?_cons_zero, List.getElem?_cons_succ, List.set_cons_zero, List.set_cons_succ, add_int, sub_int, mul_int, div_int, mod_int, lt_int, le_int, gt_int, ge_int, eq_int, ne_int, bl_bl, isD_enc, fTup, Nat.reduceLeDiff, reduceIte, decide_true, decide_false, Bool.not_true, Bool.not_false, Bool.false_eq_true, m_count_of]; rfl
theorem c_lcount {n : Nat} (h : 1 ≤ n) (t : T) (S : Store) : callP (Fs n 30) [enc t] S = .ok (.int t.sz) S := by
  obtain ⟨m, rfl, h'⟩ := Fs_s (c := 0) h
  refine callP_of (G := []) ?_ (by simp [D.pures, enc_pure]) rfl S
  cases t with
  | nil => rfl
  | node l x r => rfl
theorem c_over {n : Nat} (h : 2 ≤ n) (l r : T) (x : Int) (S : Store) : callP (Fs n 1) [enc l, .int x, enc r] S = .ok (enc (.node l x r)) S := by
  obtain ⟨m, rfl, h'⟩ := Fs_s (c := 1) h
  refine callP_of (G := []) ?_ (by simp [D.pures, enc_pure, D.pure]) (enc_pure _) S
  simp (disch := omega) only [Fs_i, bod, runF, List.length_cons, List.length_nil, Nat.zero_add, Nat.reduceAdd, if_true, if_false, List.map_cons, List.map_nil, Nat.reduceSub, List.replicate, List.cons_append, List.nil_append, sSeq, sIf, sRet, sSet, sAsg, sExp, sNil, mVar, mC, mOp, mFn, mUn, mNil, mCons, mTru, mBl, mNotT, mAndT, mOrT, mAnd, mOr, mNot, mChain, mCallP_eq, mCall, then_ok, thenS_ok, thenS_nx, thenS_ret, res_ret, res_nx, of_some, gT, gN, gsCons, gsNil, List.getElem?_cons_zero, List.getElem?_cons_succ, List.set_cons_zero, List.set_cons_succ, add_int, sub_int, mul_int, div_int, mod_int, lt_int, le_int, gt_int, ge_int, eq_int, ne_int, bl_bl, isD_enc, fTup, Nat.reduceLeDiff, reduceIte, decide_true, decide_false, Bool.not_true, Bool.not_false, Bool.false_eq_true, m_tie_over, c_count]
  simp only [enc, Int.natCast_add, Int.natCast_one]

theorem are_aux (a b : Nat) : (decide ((a : Int) + 1 ≤ 3 * ((b : Int) + 1)) && decide ((b : Int) + 1 ≤ 3 * ((a : Int) + 1))) = ev a b := by
  unfold ev
  congr 1 <;> (apply decide_eq_decide.mpr; omega)
theorem c_are {n : Nat} (h : 1 ≤ n) (a b : Nat) (S : Store) : callP (Fs n 2) [.int a, .int b] S = .ok (.bl (ev a b)) S := by
  obtain ⟨m, rfl, h'⟩ := Fs_s (c := 0) h
  refine callP_of (G := []) ?_ rfl rfl S
  rw [← are_aux]
  cases e : decide ((a : Int) + 1 ≤ 3 * ((b : Int) + 1)) with
  | false => simp (disch := omega) only [Fs_i, bod, runF, List.length_cons, List.length_nil, Nat.zero_add, Nat.reduceAdd, if_true, if_false, List.map_cons, List.map_nil, Nat.reduceSub, List.replicate, List.cons_append, List.nil_append, sSeq, sIf, sRet, sSet, sAsg, sExp, sNil, mVar, mC, mOp, mFn, mUn, mNil, mCons, mTru, mBl, mNotT, mAndT, mOrT, mAnd, mOr, mNot, mChain, mCallP_eq, mCall, then_ok, thenS_ok, thenS_nx, thenS_ret, res_ret, res_nx, of_some, gT, gN, gsCons, gsNil, List.getElem?_cons_zero, List.getElem?_cons_succ, List.set_cons_zero, List.set_cons_succ, add_int, sub_int, mul_int, div_int, mod_int, lt_int, le_int, gt_int, ge_int, eq_int, ne_int, bl_bl, isD_enc, fTup, Nat.reduceLeDiff, reduceIte, decide_true, decide_false, Bool.not_true, Bool.not_false, Bool.false_eq_true, m_are_even, e]; rfl
  | true => simp (disch := omega) only [Fs_i, bod, runF, List.length_cons, List.length_nil, Nat.zero_add, Nat.reduceAdd, if_true, if_false, List.map_cons, List.map_nil, Nat.reduceSub, List.replicate, List.cons_append, List.nil_append, sSeq, sIf, sRet, sSet, sAsg, sExp, sNil, mVar, mC, mOp, mFn, mUn, mNil, mCons, mTru, mBl, mNotT, mAndT, mOrT, mAnd, mOr, mNot, mChain, mCallP_eq, mCall, then_ok, thenS_ok, thenS_nx, thenS_ret, res_ret, res_nx, of_some, gT, gN, gsCons, gsNil, List.getElem?_cons_zero, List.getElem?_cons_succ, List.set_cons_zero, List.set_cons_succ, add_int, sub_int, mul_int, div_int, mod_int, lt_int, le_int, gt_int, ge_int, eq_int, ne_int, bl_bl, isD_enc, fTup, Nat.reduceLeDiff, reduceIte, decide_true, decide_false, Bool.not_true, Bool.not_false, Bool.false_eq_true, m_are_even, e, Bool.true_and]
theorem c_are2 {n : Nat} (h : 1 ≤ n) (a b c : Nat) (S : Store) : callP (Fs n 2) [.int ((a : Int) + 1 + (b : Int)), .int c] S = .ok (.bl (ev (a + 1 + b) c)) S := by
  have := c_are h (a + 1 + b) c S
  simpa only [Int.natCast_add, Int.natCast_one] using this
theorem c_etop {n : Nat} (h : 2 ≤ n) (l r : T) (S : Store) : callP (Fs n 3) [enc l, enc r] S = .ok (.bl (ev l.sz r.sz)) S := by
  obtain ⟨m, rfl, h'⟩ := Fs_s (c := 1) h
  refine callP_of (G := []) ?_ (by simp [D.pures, enc_pure]) rfl S
  simp (disch := omega) only [Fs_i, bod, runF, List.length_cons, List.length_nil, Nat.zero_add, Nat.reduceAdd, if_true, if_false, List.map_cons, List.map_nil, Nat.reduceSub, List.replicate, List.cons_append, List.nil_append, sSeq, sIf, sRet, sSet, sAsg, sExp, sNil, mVar, mC, mOp, mFn, mUn, mNil, mCons, mTru, mBl, mNotT, mAndT, mOrT, mAnd, mOr, mNot, mChain, mCallP_eq, mCall, then_ok, thenS_ok, thenS_nx, thenS_ret, res_ret, res_nx, of_some, gT, gN, gsCons, gsNil, List.getElem?_cons_zero, List.getElem?_cons_succ, List.set_cons_zero, List.set_cons_succ, add_int, sub_int, mul_int, div_int, mod_int, lt_int, le_int, gt_int, ge_int, eq_int, ne_int, bl_bl, isD_enc, fTup, Nat.reduceLeDiff, reduceIte, decide_true, decide_false, Bool.not_true, Bool.not_false, Bool.false_eq_true, m_is_even_top, c_count, c_are]
theorem enc_node (l : T) (x : Int) (r : T) : enc (.node l x r) = .tup [enc l, .int x, enc r, .int ((l.sz + 1 + r.sz : Nat) : Int)] := rfl
theorem sz_node (l : T) (x : Int) (r : T) : (T.node l x r).sz = l.sz + 1 + r.sz := rfl
theorem c_tl {n : Nat} (h : 3 ≤ n) (l r : T) (x : Int) (S : Store) (hl : l.sz < r.sz) (he : ev l.sz r.sz = false) (hr : r.even = true) : callP (Fs n 5) [enc l, .int x, enc r] S = .ok (enc (tl l x r)) S := by
  obtain ⟨m, rfl, h'⟩ := Fs_s (c := 2) h
  refine callP_of (G := []) ?_ (by simp [D.pures, enc_pure, D.pure]) (enc_pure _) S
  cases r with
  | nil => simp only [T.sz] at hl; omega
  | node i o u =>
    simp only [tl]
    rw [enc_node]
    cases e1 : ev l.sz i.sz with
    | true =>
      cases e2 : ev (l.sz + 1 + i.sz) u.sz with
      | true => simp (disch := omega) only [Fs_i, bod, runF, List.length_cons, List.length_nil, Nat.zero_add, Nat.reduceAdd, if_true, if_false, List.map_cons, List.map_nil, Nat.reduceSub, List.replicate, List.cons_append, List.nil_append, sSeq, sIf, sRet, sSet, sAsg, sExp, sNil, mVar, mC, mOp, mFn, mUn, mNil, mCons, mTru, mBl, mNotT, mAndT, mOrT, mAnd, mOr, mNot, mChain, mCallP_eq, mCall, then_ok, thenS_ok, thenS_nx, thenS_ret, res_ret, res_nx, of_some, gT, gN, gsCons, gsNil, List.getElem?_cons_zero, List.getElem?_cons_succ, List.set_cons_zero, List.set_cons_succ, add_int, sub_int, mul_int, div_int, mod_int, lt_int, le_int, gt_int, ge_int, eq_int, ne_int, bl_bl, isD_enc, fTup, Nat.reduceLeDiff, reduceIte, decide_true, decide_false, Bool.not_true, Bool.not_false, Bool.false_eq_true, m_turned_left, c_count, c_are, c_are2, c_over, e1, e2, Bool.and_self]
      | false =>
        cases i with
        | nil =>
          exfalso
          have h1 := ev_not.mp e2
          have h2 := (even_node.mp hr).1
          have h3 := ev_not.mp he
          have h4 := ev_iff.mp e1
          simp only [T.sz] at h1 h2 h3 h4 hl
          omega
        | node b w e =>
          simp (disch := omega) only [Fs_i, bod, runF, List.length_cons, List.length_nil, Nat.zero_add, Nat.reduceAdd, if_true, if_false, List.map_cons, List.map_nil, Nat.reduceSub, List.replicate, List.cons_append, List.nil_append, sSeq, sIf, sRet, sSet, sAsg, sExp, sNil, mVar, mC, mOp, mFn, mUn, mNil, mCons, mTru, mBl, mNotT, mAndT, mOrT, mAnd, mOr, mNot, mChain, mCallP_eq, mCall, then_ok, thenS_ok, thenS_nx, thenS_ret, res_ret, res_nx, of_some, gT, gN, gsCons, gsNil, List.getElem?_cons_zero, List.getElem?_cons_succ, List.set_cons_zero, List.set_cons_succ, add_int, sub_int, mul_int, div_int, mod_int, lt_int, le_int, gt_int, ge_int, eq_int, ne_int, bl_bl, isD_enc, fTup, Nat.reduceLeDiff, reduceIte, decide_true, decide_false, Bool.not_true, Bool.not_false, Bool.false_eq_true, m_turned_left, c_count, c_are, c_are2, c_over, e1, e2, Bool.and_false]
          rw [enc_node b w e]
          simp (disch := omega) only [Fs_i, bod, runF, List.length_cons, List.length_nil, Nat.zero_add, Nat.reduceAdd, if_true, if_false, List.map_cons, List.map_nil, Nat.reduceSub, List.replicate, List.cons_append, List.nil_append, sSeq, sIf, sRet, sSet, sAsg, sExp, sNil, mVar, mC, mOp, mFn, mUn, mNil, mCons, mTru, mBl, mNotT, mAndT, mOrT, mAnd, mOr, mNot, mChain, mCallP_eq, mCall, then_ok, thenS_ok, thenS_nx, thenS_ret, res_ret, res_nx, of_some, gT, gN, gsCons, gsNil, List.getElem?_cons_zero, List.getElem?_cons_succ, List.set_cons_zero, List.set_cons_succ, add_int, sub_int, mul_int, div_int, mod_int, lt_int, le_int, gt_int, ge_int, eq_int, ne_int, bl_bl, isD_enc, fTup, Nat.reduceLeDiff, reduceIte, decide_true, decide_false, Bool.not_true, Bool.not_false, Bool.false_eq_true, c_over]
    | false =>
      cases i with
      | nil =>
        exfalso
        have h1 := ev_not.mp e1
        have h2 := (even_node.mp hr).1
        have h3 := ev_not.mp he
        simp only [T.sz] at h1 h2 h3 hl
        omega
      | node b w e =>
        simp (disch := omega) only [Fs_i, bod, runF, List.length_cons, List.length_nil, Nat.zero_add, Nat.reduceAdd, if_true, if_false, List.map_cons, List.map_nil, Nat.reduceSub, List.replicate, List.cons_append, List.nil_append, sSeq, sIf, sRet, sSet, sAsg, sExp, sNil, mVar, mC, mOp, mFn, mUn, mNil, mCons, mTru, mBl, mNotT, mAndT, mOrT, mAnd, mOr, mNot, mChain, mCallP_eq, mCall, then_ok, thenS_ok, thenS_nx, thenS_ret, res_ret, res_nx, of_some, gT, gN, gsCons, gsNil, List.getElem?_cons_zero, List.getElem?_cons_succ, List.set_cons_zero, List.set_cons_succ, add_int, sub_int, mul_int, div_int, mod_int, lt_int, le_int, gt_int, ge_int, eq_int, ne_int, bl_bl, isD_enc, fTup, Nat.reduceLeDiff, reduceIte, decide_true, decide_false, Bool.not_true, Bool.not_false, Bool.false_eq_true, m_turned_left, c_count, c_are, c_are2, c_over, e1, Bool.false_and]
        rw [enc_node b w e]
        simp (disch := omega) only [Fs_i, bod, runF, List.length_cons, List.length_nil, Nat.zero_add, Nat.reduceAdd, if_true, if_false, List.map_cons, List.map_nil, Nat.reduceSub, List.replicate, List.cons_append, List.nil_append, sSeq, sIf, sRet, sSet, sAsg, sExp, sNil, mVar, mC, mOp, mFn, mUn, mNil, mCons, mTru, mBl, mNotT, mAndT, mOrT, mAnd, mOr, mNot, mChain, mCallP_eq, mCall, then_ok, thenS_ok, thenS_nx, thenS_ret, res_ret, res_nx, of_some, gT, gN, gsCons, gsNil, List.getElem?_cons_zero, List.getElem?_cons_succ, List.set_cons_zero, List.set_cons_succ, add_int, sub_int, mul_int, div_int, mod_int, lt_int, le_int, gt_int, ge_int, eq_int, ne_int, bl_bl, isD_enc, fTup, Nat.reduceLeDiff, reduceIte, decide_true, decide_false, Bool.not_true, Bool.not_false, Bool.false_eq_true, c_over]
theorem c_tr {n : Nat} (h : 3 ≤ n) (l r : T) (x : Int) (S : Store) (hl : ¬ l.sz < r.sz) (he : ev l.sz r.sz = false) (hr : l.even = true) : callP (Fs n 6) [enc l, .int x, enc r] S = .ok (enc (tr l x r)) S := by
  obtain ⟨m, rfl, h'⟩ := Fs_s (c := 2) h
  refine callP_of (G := []) ?_ (by simp [D.pures, enc_pure, D.pure]) (enc_pure _) S
  cases l with
  | nil =>
    have h3 := ev_not.mp he
    simp only [T.sz] at hl h3; omega
  | node u o i =>
    simp only [tr]
    rw [enc_node]
    cases e1 : ev r.sz i.sz with
    | true =>
      cases e2 : ev (r.sz + 1 + i.sz) u.sz with
      | true => simp (disch := omega) only [Fs_i, bod, runF, List.length_cons, List.length_nil, Nat.zero_add, Nat.reduceAdd, if_true, if_false, List.map_cons, List.map_nil, Nat.reduceSub, List.replicate, List.cons_append, List.nil_append, sSeq, sIf, sRet, sSet, sAsg, sExp, sNil, mVar, mC, mOp, mFn, mUn, mNil, mCons, mTru, mBl, mNotT, mAndT, mOrT, mAnd, mOr, mNot, mChain, mCallP_eq, mCall, then_ok, thenS_ok, thenS_nx, thenS_ret, res_ret, res_nx, of_some, gT, gN, gsCons, gsNil, List.getElem?_cons_zero, List.getElem?_cons_succ, List.set_cons_zero, List.set_cons_succ, add_int, sub_int, mul_int, div_int, mod_int, lt_int, le_int, gt_int, ge_int, eq_int, ne_int, bl_bl, isD_enc, fTup, Nat.reduceLeDiff, reduceIte, decide_true, decide_false, Bool.not_true, Bool.not_false, Bool.false_eq_true, m_turned_right, c_count, c_are, c_are2, c_over, e1, e2, Bool.and_self]
      | false =>
        cases i with
        | nil =>
          exfalso
          have h1 := ev_not.mp e2
          have h2 := (even_node.mp hr).1
          have h3 := ev_not.mp he
          have h4 := ev_iff.mp e1
          simp only [T.sz] at h1 h2 h3 h4 hl
          omega
        | node b w e =>
          simp (disch := omega) only [Fs_i, bod, runF, List.length_cons, List.length_nil, Nat.zero_add, Nat.reduceAdd, if_true, if_false, List.map_cons, List.map_nil, Nat.reduceSub, List.replicate, List.cons_append, List.nil_append, sSeq, sIf, sRet, sSet, sAsg, sExp, sNil, mVar, mC, mOp, mFn, mUn, mNil, mCons, mTru, mBl, mNotT, mAndT, mOrT, mAnd, mOr, mNot, mChain, mCallP_eq, mCall, then_ok, thenS_ok, thenS_nx, thenS_ret, res_ret, res_nx, of_some, gT, gN, gsCons, gsNil, List.getElem?_cons_zero, List.getElem?_cons_succ, List.set_cons_zero, List.set_cons_succ, add_int, sub_int, mul_int, div_int, mod_int, lt_int, le_int, gt_int, ge_int, eq_int, ne_int, bl_bl, isD_enc, fTup, Nat.reduceLeDiff, reduceIte, decide_true, decide_false, Bool.not_true, Bool.not_false, Bool.false_eq_true, m_turned_right, c_count, c_are, c_are2, c_over, e1, e2, Bool.and_false]
          rw [enc_node b w e]
          simp (disch := omega) only [Fs_i, bod, runF, List.length_cons, List.length_nil, Nat.zero_add, Nat.reduceAdd, if_true, if_false, List.map_cons, List.map_nil, Nat.reduceSub, List.replicate, List.cons_append, List.nil_append, sSeq, sIf, sRet, sSet, sAsg, sExp, sNil, mVar, mC, mOp, mFn, mUn, mNil, mCons, mTru, mBl, mNotT, mAndT, mOrT, mAnd, mOr, mNot, mChain, mCallP_eq, mCall, then_ok, thenS_ok, thenS_nx, thenS_ret, res_ret, res_nx, of_some, gT, gN, gsCons, gsNil, List.getElem?_cons_zero, List.getElem?_cons_succ, List.set_cons_zero, List.set_cons_succ, add_int, sub_int, mul_int, div_int, mod_int, lt_int, le_int, gt_int, ge_int, eq_int, ne_int, bl_bl, isD_enc, fTup, Nat.reduceLeDiff, reduceIte, decide_true, decide_false, Bool.not_true, Bool.not_false, Bool.false_eq_true, c_over]
    | false =>
      cases i with
      | nil =>
        exfalso
        have h1 := ev_not.mp e1
        have h2 := (even_node.mp hr).1
        have h3 := ev_not.mp he
        simp only [T.sz] at h1 h2 h3 hl
        omega
      | node b w e =>
        simp (disch := omega) only [Fs_i, bod, runF, List.length_cons, List.length_nil, Nat.zero_add, Nat.reduceAdd, if_true, if_false, List.map_cons, List.map_nil, Nat.reduceSub, List.replicate, List.cons_append, List.nil_append, sSeq, sIf, sRet, sSet, sAsg, sExp, sNil, mVar, mC, mOp, mFn, mUn, mNil, mCons, mTru, mBl, mNotT, mAndT, mOrT, mAnd, mOr, mNot, mChain, mCallP_eq, mCall, then_ok, thenS_ok, thenS_nx, thenS_ret, res_ret, res_nx, of_some, gT, gN, gsCons, gsNil, List.getElem?_cons_zero, List.getElem?_cons_succ, List.set_cons_zero, List.set_cons_succ, add_int, sub_int, mul_int, div_int, mod_int, lt_int, le_int, gt_int, ge_int, eq_int, ne_int, bl_bl, isD_enc, fTup, Nat.reduceLeDiff, reduceIte, decide_true, decide_false, Bool.not_true, Bool.not_false, Bool.false_eq_true, m_turned_right, c_count, c_are, c_are2, c_over, e1, Bool.false_and]
        rw [enc_node b w e]
        simp (disch := omega) only [Fs_i, bod, runF, List.length_cons, List.length_nil, Nat.zero_add, Nat.reduceAdd, if_true, if_false, List.map_cons, List.map_nil, Nat.reduceSub, List.replicate, List.cons_append, List.nil_append, sSeq, sIf, sRet, sSet, sAsg, sExp, sNil, mVar, mC, mOp, mFn, mUn, mNil, mCons, mTru, mBl, mNotT, mAndT, mOrT, mAnd, mOr, mNot, mChain, mCallP_eq, mCall, then_ok, thenS_ok, thenS_nx, thenS_ret, res_ret, res_nx, of_some, gT, gN, gsCons, gsNil, List.getElem?_cons_zero, List.getElem?_cons_succ, List.set_cons_zero, List.set_cons_succ, add_int, sub_int, mul_int, div_int, mod_int, lt_int, le_int, gt_int, ge_int, eq_int, ne_int, bl_bl, isD_enc, fTup, Nat.reduceLeDiff, reduceIte, decide_true, decide_false, Bool.not_true, Bool.not_false, Bool.false_eq_true, c_over]
theorem c_evd {n : Nat} (h : 4 ≤ n) (l r : T) (x : Int) (S : Store) (hl : l.even = true) (hr : r.even = true) : callP (Fs n 7) [enc l, .int x, enc r] S = .ok (enc (evd l x r)) S := by
  obtain ⟨m, rfl, h'⟩ := Fs_s (c := 3) h
  refine callP_of (G := []) ?_ (by simp [D.pures, enc_pure, D.pure]) (enc_pure _) S
  unfold evd
  cases e1 : ev l.sz r.sz with
  | true => simp (disch := omega) only [Fs_i, bod, runF, List.length_cons, List.length_nil, Nat.zero_add, Nat.reduceAdd, if_true, if_false, List.map_cons, List.map_nil, Nat.reduceSub, List.replicate, List.cons_append, List.nil_append, sSeq, sIf, sRet, sSet, sAsg, sExp, sNil, mVar, mC, mOp, mFn, mUn, mNil, mCons, mTru, mBl, mNotT, mAndT, mOrT, mAnd, mOr, mNot, mChain, mCallP_eq, mCall, then_ok, thenS_ok, thenS_nx, thenS_ret, res_ret, res_nx, of_some, gT, gN, gsCons, gsNil, List.getElem?_cons_zero, List.getElem?_cons_succ, List.set_cons_zero, List.set_cons_succ, add_int, sub_int, mul_int, div_int, mod_int, lt_int, le_int, gt_int, ge_int, eq_int, ne_int, bl_bl, isD_enc, fTup, Nat.reduceLeDiff, reduceIte, decide_true, decide_false, Bool.not_true, Bool.not_false, Bool.false_eq_true, m_evened, c_etop, c_over, e1]
  | false =>
    by_cases e2 : l.sz < r.sz
    · have e3 : (l.sz : Int) < r.sz := by omega
      simp (disch := omega) only [Fs_i, bod, runF, List.length_cons, List.length_nil, Nat.zero_add, Nat.reduceAdd, if_true, if_false, List.map_cons, List.map_nil, Nat.reduceSub, List.replicate, List.cons_append, List.nil_append, sSeq, sIf, sRet, sSet, sAsg, sExp, sNil, mVar, mC, mOp, mFn, mUn, mNil, mCons, mTru, mBl, mNotT, mAndT, mOrT, mAnd, mOr, mNot, mChain, mCallP_eq, mCall, then_ok, thenS_ok, thenS_nx, thenS_ret, res_ret, res_nx, of_some, gT, gN, gsCons, gsNil, List.getElem?_cons_zero, List.getElem?_cons_succ, List.set_cons_zero, List.set_cons_succ, add_int, sub_int, mul_int, div_int, mod_int, lt_int, le_int, gt_int, ge_int, eq_int, ne_int, bl_bl, isD_enc, fTup, Nat.reduceLeDiff, reduceIte, decide_true, decide_false, Bool.not_true, Bool.not_false, Bool.false_eq_true, m_evened, c_etop, c_over, c_count, e1, e2, e3, c_tl (n := m) (by omega) l r x _ e2 e1 hr]
    · have e3 : ¬ (l.sz : Int) < r.sz := by omega
      simp (disch := omega) only [Fs_i, bod, runF, List.length_cons, List.length_nil, Nat.zero_add, Nat.reduceAdd, if_true, if_false, List.map_cons, List.map_nil, Nat.reduceSub, List.replicate, List.cons_append, List.nil_append, sSeq, sIf, sRet, sSet, sAsg, sExp, sNil, mVar, mC, mOp, mFn, mUn, mNil, mCons, mTru, mBl, mNotT, mAndT, mOrT, mAnd, mOr, mNot, mChain, mCallP_eq, mCall, then_ok, thenS_ok, thenS_nx, thenS_ret, res_ret, res_nx, of_some, gT, gN, gsCons, gsNil, List.getElem?_cons_zero, List.getElem?_cons_succ, List.set_cons_zero, List.set_cons_succ, add_int, sub_int, mul_int, div_int, mod_int, lt_int, le_int, gt_int, ge_int, eq_int, ne_int, bl_bl, isD_enc, fTup, Nat.reduceLeDiff, reduceIte, decide_true, decide_false, Bool.not_true, Bool.not_false, Bool.false_eq_true, m_evened, c_etop, c_over, c_count, e1, e2, e3, c_tr (n := m) (by omega) l r x _ e2 e1 hl]
theorem c_lnk : ∀ (k n : Nat) (l r : T) (x : Int) (S : Store), l.sz + r.sz ≤ k → l.ht + r.ht + 5 ≤ n → l.even = true → r.even = true → callP (Fs n 8) [enc l, .int x, enc r] S = .ok (enc (lnk l x r)) S
  | k, n, l, r, x, S, hk, h, hl, hr => by
    obtain ⟨m, rfl, h'⟩ := Fs_s (c := l.ht + r.ht + 4) h
    refine callP_of (G := []) ?_ (by simp [D.pures, enc_pure, D.pure]) (enc_pure _) S
    rcases lnk_cases l x r with ⟨e, e'⟩ | ⟨e, hs, i, o, u, rfl, e'⟩ | ⟨e, hs, u, o, i, rfl, e'⟩
    · rw [e']; simp (disch := omega) only [Fs_i, bod, runF, List.length_cons, List.length_nil, Nat.zero_add, Nat.reduceAdd, if_true, if_false, List.map_cons, List.map_nil, Nat.reduceSub, List.replicate, List.cons_append, List.nil_append, sSeq, sIf, sRet, sSet, sAsg, sExp, sNil, mVar, mC, mOp, mFn, mUn, mNil, mCons, mTru, mBl, mNotT, mAndT, mOrT, mAnd, mOr, mNot, mChain, mCallP_eq, mCall, then_ok, thenS_ok, thenS_nx, thenS_ret, res_ret, res_nx, of_some, gT, gN, gsCons, gsNil, List.getElem?_cons_zero, List.getElem?_cons_succ, List.set_cons_zero, List.set_cons_succ, add_int, sub_int, mul_int, div_int, mod_int, lt_int, le_int, gt_int, ge_int, eq_int, ne_int, bl_bl, isD_enc, fTup, Nat.reduceLeDiff, reduceIte, decide_true, decide_false, Bool.not_true, Bool.not_false, Bool.false_eq_true, m_linked, c_etop, c_over, e]
    · rw [e']
      obtain ⟨_, h3, h4⟩ := even_node.mp hr
      have e3 : (l.sz : Int) < (T.node i o u).sz := by omega
      have h5 : l.ht + i.ht + 5 ≤ m := by simp only [T.ht] at h'; omega
      have h6 : l.sz + i.sz ≤ k - 1 := by simp only [T.sz] at hk; omega
      simp (disch := omega) only [Fs_i, bod, runF, List.length_cons, List.length_nil, Nat.zero_add, Nat.reduceAdd, if_true, if_false, List.map_cons, List.map_nil, Nat.reduceSub, List.replicate, List.cons_append, List.nil_append, sSeq, sIf, sRet, sSet, sAsg, sExp, sNil, mVar, mC, mOp, mFn, mUn, mNil, mCons, mTru, mBl, mNotT, mAndT, mOrT, mAnd, mOr, mNot, mChain, mCallP_eq, mCall, then_ok, thenS_ok, thenS_nx, thenS_ret, res_ret, res_nx, of_some, gT, gN, gsCons, gsNil, List.getElem?_cons_zero, List.getElem?_cons_succ, List.set_cons_zero, List.set_cons_succ, add_int, sub_int, mul_int, div_int, mod_int, lt_int, le_int, gt_int, ge_int, eq_int, ne_int, bl_bl, isD_enc, fTup, Nat.reduceLeDiff, reduceIte, decide_true, decide_false, Bool.not_true, Bool.not_false, Bool.false_eq_true, m_linked, c_etop, c_over, c_count, e, e3]
      rw [enc_node i o u]
      simp (disch := omega) only [Fs_i, bod, runF, List.length_cons, List.length_nil, Nat.zero_add, Nat.reduceAdd, if_true, if_false, List.map_cons, List.map_nil, Nat.reduceSub, List.replicate, List.cons_append, List.nil_append, sSeq, sIf, sRet, sSet, sAsg, sExp, sNil, mVar, mC, mOp, mFn, mUn, mNil, mCons, mTru, mBl, mNotT, mAndT, mOrT, mAnd, mOr, mNot, mChain, mCallP_eq, mCall, then_ok, thenS_ok, thenS_nx, thenS_ret, res_ret, res_nx, of_some, gT, gN, gsCons, gsNil, List.getElem?_cons_zero, List.getElem?_cons_succ, List.set_cons_zero, List.set_cons_succ, add_int, sub_int, mul_int, div_int, mod_int, lt_int, le_int, gt_int, ge_int, eq_int, ne_int, bl_bl, isD_enc, fTup, Nat.reduceLeDiff, reduceIte, decide_true, decide_false, Bool.not_true, Bool.not_false, Bool.false_eq_true, c_lnk (k - 1) m l i x [] h6 h5 hl h3, c_evd (n := m) (by omega) (lnk l x i) u o [] (even_lnk' hl h3) h4]
    · rw [e']
      obtain ⟨_, h4, h3⟩ := even_node.mp hl
      have e3 : ¬ ((T.node u o i).sz : Int) < r.sz := by omega
      have h5 : i.ht + r.ht + 5 ≤ m := by simp only [T.ht] at h'; omega
      have h6 : i.sz + r.sz ≤ k - 1 := by simp only [T.sz] at hk; omega
      simp (disch := omega) only [Fs_i, bod, runF, List.length_cons, List.length_nil, Nat.zero_add, Nat.reduceAdd, if_true, if_false, List.map_cons, List.map_nil, Nat.reduceSub, List.replicate, List.cons_append, List.nil_append, sSeq, sIf, sRet, sSet, sAsg, sExp, sNil, mVar, mC, mOp, mFn, mUn, mNil, mCons, mTru, mBl, mNotT, mAndT, mOrT, mAnd, mOr, mNot, mChain, mCallP_eq, mCall, then_ok, thenS_ok, thenS_nx, thenS_ret, res_ret, res_nx, of_some, gT, gN, gsCons, gsNil, List.getElem?_cons_zero, List.getElem?_cons_succ, List.set_cons_zero, List.set_cons_succ, add_int, sub_int, mul_int, div_int, mod_int, lt_int, le_int, gt_int, ge_int, eq_int, ne_int, bl_bl, isD_enc, fTup, Nat.reduceLeDiff, reduceIte, decide_true, decide_false, Bool.not_true, Bool.not_false, Bool.false_eq_true, m_linked, c_etop, c_over, c_count, e, e3]
      rw [enc_node u o i]
      simp (disch := omega) only [Fs_i, bod, runF, List.length_cons, List.length_nil, Nat.zero_add, Nat.reduceAdd, if_true, if_false, List.map_cons, List.map_nil, Nat.reduceSub, List.replicate, List.cons_append, List.nil_append, sSeq, sIf, sRet, sSet, sAsg, sExp, sNil, mVar, mC, mOp, mFn, mUn, mNil, mCons, mTru, mBl, mNotT, mAndT, mOrT, mAnd, mOr, mNot, mChain, mCallP_eq, mCall, then_ok, thenS_ok, thenS_nx, thenS_ret, res_ret, res_nx, of_some, gT, gN, gsCons, gsNil, List.getElem?_cons_zero, List.getElem?_cons_succ, List.set_cons_zero, List.set_cons_succ, add_int, sub_int, mul_int, div_int, mod_int, lt_int, le_int, gt_int, ge_int, eq_int, ne_int, bl_bl, isD_enc, fTup, Nat.reduceLeDiff, reduceIte, decide_true, decide_false, Bool.not_true, Bool.not_false, Bool.false_eq_true, c_lnk (k - 1) m i r x [] h6 h5 h3 hr, c_evd (n := m) (by omega) u (lnk i x r) o [] h4 (even_lnk' h3 hr)]
termination_by k => k
decreasing_by all_goals (simp only [T.sz] at hk; omega)

theorem c_more : ∀ (t : T) (n k : Nat) (x : Int) (S : Store), t.ht + 6 ≤ n → t.even = true → callP (Fs n 9) [enc t, .int k, .int x] S = .ok (enc (more t k x)) S
  | .nil, n, k, x, S, h, hv => by
    obtain ⟨m, rfl, h'⟩ := Fs_s (c := 5) h
    refine callP_of (G := []) ?_ (by simp [D.pures, enc_pure, D.pure]) (enc_pure _) S
    have e := c_over (n := m) (by omega) .nil .nil x []
    rw [show enc .nil = .non from rfl] at e ⊢
    simp (disch := omega) only [Fs_i, bod, runF, List.length_cons, List.length_nil, Nat.zero_add, Nat.reduceAdd, if_true, if_false, List.map_cons, List.map_nil, Nat.reduceSub, List.replicate, List.cons_append, List.nil_append, sSeq, sIf, sRet, sSet, sAsg, sExp, sNil, mVar, mC, mOp, mFn, mUn, mNil, mCons, mTru, mBl, mNotT, mAndT, mOrT, mAnd, mOr, mNot, mChain, mCallP_eq, mCall, then_ok, thenS_ok, thenS_nx, thenS_ret, res_ret, res_nx, of_some, gT, gN, gsCons, gsNil, List.getElem?_cons_zero, List.getElem?_cons_succ, List.set_cons_zero, List.set_cons_succ, add_int, sub_int, mul_int, div_int, mod_int, lt_int, le_int, gt_int, ge_int, eq_int, ne_int, bl_bl, isD_enc, fTup, Nat.reduceLeDiff, reduceIte, decide_true, decide_false, Bool.not_true, Bool.not_false, Bool.false_eq_true, m_with_more, e, isD, D.isNon]
    rfl
  | .node l y r, n, k, x, S, h, hv => by
    obtain ⟨m, rfl, h'⟩ := Fs_s (c := (T.node l y r).ht + 5) h
    refine callP_of (G := []) ?_ (by simp [D.pures, enc_pure, D.pure]) (enc_pure _) S
    obtain ⟨_, h3, h4⟩ := even_node.mp hv
    simp only [T.ht] at h'
    simp (disch := omega) only [Fs_i, bod, runF, List.length_cons, List.length_nil, Nat.zero_add, Nat.reduceAdd, if_true, if_false, List.map_cons, List.map_nil, Nat.reduceSub, List.replicate, List.cons_append, List.nil_append, sSeq, sIf, sRet, sSet, sAsg, sExp, sNil, mVar, mC, mOp, mFn, mUn, mNil, mCons, mTru, mBl, mNotT, mAndT, mOrT, mAnd, mOr, mNot, mChain, mCallP_eq, mCall, then_ok, thenS_ok, thenS_nx, thenS_ret, res_ret, res_nx, of_some, gT, gN, gsCons, gsNil, List.getElem?_cons_zero, List.getElem?_cons_succ, List.set_cons_zero, List.set_cons_succ, add_int, sub_int, mul_int, div_int, mod_int, lt_int, le_int, gt_int, ge_int, eq_int, ne_int, bl_bl, isD_enc, fTup, Nat.reduceLeDiff, reduceIte, decide_true, decide_false, Bool.not_true, Bool.not_false, Bool.false_eq_true, m_with_more, reduceCtorEq]
    rw [enc_node l y r, more]
    by_cases hk : k ≤ l.sz
    · have hk' : (k : Int) ≤ l.sz := by omega
      simp (disch := omega) only [Fs_i, bod, runF, List.length_cons, List.length_nil, Nat.zero_add, Nat.reduceAdd, if_true, if_false, List.map_cons, List.map_nil, Nat.reduceSub, List.replicate, List.cons_append, List.nil_append, sSeq, sIf, sRet, sSet, sAsg, sExp, sNil, mVar, mC, mOp, mFn, mUn, mNil, mCons, mTru, mBl, mNotT, mAndT, mOrT, mAnd, mOr, mNot, mChain, mCallP_eq, mCall, then_ok, thenS_ok, thenS_nx, thenS_ret, res_ret, res_nx, of_some, gT, gN, gsCons, gsNil, List.getElem?_cons_zero, List.getElem?_cons_succ, List.set_cons_zero, List.set_cons_succ, add_int, sub_int, mul_int, div_int, mod_int, lt_int, le_int, gt_int, ge_int, eq_int, ne_int, bl_bl, isD_enc, fTup, Nat.reduceLeDiff, reduceIte, decide_true, decide_false, Bool.not_true, Bool.not_false, Bool.false_eq_true, c_count, hk, hk', c_more l m k x [] (by omega) h3, c_evd (n := m) (by omega) (more l k x) r y [] (even_more l k x h3) h4]
    · have hk' : ¬ (k : Int) ≤ l.sz := by omega
      have e4 : (k : Int) - l.sz - 1 = ((k - l.sz - 1 : Nat) : Int) := by omega
      simp (disch := omega) only [Fs_i, bod, runF, List.length_cons, List.length_nil, Nat.zero_add, Nat.reduceAdd, if_true, if_false, List.map_cons, List.map_nil, Nat.reduceSub, List.replicate, List.cons_append, List.nil_append, sSeq, sIf, sRet, sSet, sAsg, sExp, sNil, mVar, mC, mOp, mFn, mUn, mNil, mCons, mTru, mBl, mNotT, mAndT, mOrT, mAnd, mOr, mNot, mChain, mCallP_eq, mCall, then_ok, thenS_ok, thenS_nx, thenS_ret, res_ret, res_nx, of_some, gT, gN, gsCons, gsNil, List.getElem?_cons_zero, List.getElem?_cons_succ, List.set_cons_zero, List.set_cons_succ, add_int, sub_int, mul_int, div_int, mod_int, lt_int, le_int, gt_int, ge_int, eq_int, ne_int, bl_bl, isD_enc, fTup, Nat.reduceLeDiff, reduceIte, decide_true, decide_false, Bool.not_true, Bool.not_false, Bool.false_eq_true, c_count, hk, hk', e4, c_more r m (k - l.sz - 1) x [] (by omega) h4, c_evd (n := m) (by omega) l (more r (k - l.sz - 1) x) y [] h3 (even_more r _ x h4)]
theorem c_first : ∀ (t : T) (n : Nat) (S : Store), t ≠ .nil → t.ht + 6 ≤ n → t.even = true → callP (Fs n 10) [enc t] S = .ok (.tup [.int (first t).1, enc (first t).2]) S
  | .nil, n, S, hz, h, hv => absurd rfl hz
  | .node .nil y r, n, S, hz, h, hv => by
    obtain ⟨m, rfl, h'⟩ := Fs_s (c := 5) (Nat.le_trans (by simp only [T.ht]; omega) h)
    refine callP_of (G := []) ?_ (by simp [D.pures, enc_pure, D.pure]) (by simp [D.pures, enc_pure, D.pure]) S
    rw [enc_node, first]
    simp (disch := omega) only [Fs_i, bod, runF, List.length_cons, List.length_nil, Nat.zero_add, Nat.reduceAdd, if_true, if_false, List.map_cons, List.map_nil, Nat.reduceSub, List.replicate, List.cons_append, List.nil_append, sSeq, sIf, sRet, sSet, sAsg, sExp, sNil, mVar, mC, mOp, mFn, mUn, mNil, mCons, mTru, mBl, mNotT, mAndT, mOrT, mAnd, mOr, mNot, mChain, mCallP_eq, mCall, then_ok, thenS_ok, thenS_nx, thenS_ret, res_ret, res_nx, of_some, gT, gN, gsCons, gsNil, List.getElem?_cons_zero, List.getElem?_cons_succ, List.set_cons_zero, List.set_cons_succ, add_int, sub_int, mul_int, div_int, mod_int, lt_int, le_int, gt_int, ge_int, eq_int, ne_int, bl_bl, isD_enc, fTup, Nat.reduceLeDiff, reduceIte, decide_true, decide_false, Bool.not_true, Bool.not_false, Bool.false_eq_true, m_without_first]
  | .node (.node a b c) y r, n, S, hz, h, hv => by
    obtain ⟨m, rfl, h'⟩ := Fs_s (c := (T.node (.node a b c) y r).ht + 5) h
    refine callP_of (G := []) ?_ (by simp [D.pures, enc_pure, D.pure]) (by simp [D.pures, enc_pure, D.pure]) S
    obtain ⟨_, h3, h4⟩ := even_node.mp hv
    have hh : (T.node (.node a b c) y r).ht = 1 + max (T.node a b c).ht r.ht := rfl
    have hn : T.node a b c ≠ .nil := by intro z; cases z
    rw [enc_node _ y r, first_node hn]
    simp (disch := omega) only [Fs_i, bod, runF, List.length_cons, List.length_nil, Nat.zero_add, Nat.reduceAdd, if_true, if_false, List.map_cons, List.map_nil, Nat.reduceSub, List.replicate, List.cons_append, List.nil_append, sSeq, sIf, sRet, sSet, sAsg, sExp, sNil, mVar, mC, mOp, mFn, mUn, mNil, mCons, mTru, mBl, mNotT, mAndT, mOrT, mAnd, mOr, mNot, mChain, mCallP_eq, mCall, then_ok, thenS_ok, thenS_nx, thenS_ret, res_ret, res_nx, of_some, gT, gN, gsCons, gsNil, List.getElem?_cons_zero, List.getElem?_cons_succ, List.set_cons_zero, List.set_cons_succ, add_int, sub_int, mul_int, div_int, mod_int, lt_int, le_int, gt_int, ge_int, eq_int, ne_int, bl_bl, isD_enc, fTup, Nat.reduceLeDiff, reduceIte, decide_true, decide_false, Bool.not_true, Bool.not_false, Bool.false_eq_true, m_without_first, hn, c_first (.node a b c) m [] hn (by omega) h3, c_evd (n := m) (by omega) (first (.node a b c)).2 r y [] (even_first _ h3) h4]
theorem sz_ht : ∀ t : T, t.ht ≤ t.sz
  | .nil => Nat.le_refl _
  | .node l x r => by have := sz_ht l; have := sz_ht r; simp only [T.ht, T.sz]; omega
theorem ht_of {t : T} (h : t.even = true) (hs : t.sz ≤ 1000) : t.ht ≤ 26 := by
  have a := ht_lg t h
  have b := lg_mono 1001 (t.sz + 1) (by omega)
  have c : lg 1001 ≤ 26 := by
    repeat (rw [lg]; simp)
  omega
theorem c_both {n : Nat} (a b : T) (S : Store) (h : 100 ≤ n) (ha : a.even = true) (hb : b.even = true) (sa : a.sz ≤ 1000) (sb : b.sz ≤ 1000) : callP (Fs n 11) [enc a, enc b] S = .ok (enc (both a b)) S := by
  obtain ⟨m, rfl, h'⟩ := Fs_s (c := 99) h
  refine callP_of (G := []) ?_ (by simp [D.pures, enc_pure, D.pure]) (enc_pure _) S
  have q1 := ht_of ha sa
  have q2 := ht_of hb sb
  cases b with
  | nil => simp (disch := omega) only [Fs_i, bod, runF, List.length_cons, List.length_nil, Nat.zero_add, Nat.reduceAdd, if_true, if_false, List.map_cons, List.map_nil, Nat.reduceSub, List.replicate, List.cons_append, List.nil_append, sSeq, sIf, sRet, sSet, sAsg, sExp, sNil, mVar, mC, mOp, mFn, mUn, mNil, mCons, mTru, mBl, mNotT, mAndT, mOrT, mAnd, mOr, mNot, mChain, mCallP_eq, mCall, then_ok, thenS_ok, thenS_nx, thenS_ret, res_ret, res_nx, of_some, gT, gN, gsCons, gsNil, List.getElem?_cons_zero, List.getElem?_cons_succ, List.set_cons_zero, List.set_cons_succ, add_int, sub_int, mul_int, div_int, mod_int, lt_int, le_int, gt_int, ge_int, eq_int, ne_int, bl_bl, isD_enc, fTup, Nat.reduceLeDiff, reduceIte, decide_true, decide_false, Bool.not_true, Bool.not_false, Bool.false_eq_true, m_one_behind]; try rfl
  | node l x r =>
    have hn : T.node l x r ≠ .nil := by intro z; cases z
    have hs := sz_first _ hn
    have q3 := ht_of (even_first _ hb) (by omega)
    simp (disch := omega) only [Fs_i, bod, runF, List.length_cons, List.length_nil, Nat.zero_add, Nat.reduceAdd, if_true, if_false, List.map_cons, List.map_nil, Nat.reduceSub, List.replicate, List.cons_append, List.nil_append, sSeq, sIf, sRet, sSet, sAsg, sExp, sNil, mVar, mC, mOp, mFn, mUn, mNil, mCons, mTru, mBl, mNotT, mAndT, mOrT, mAnd, mOr, mNot, mChain, mCallP_eq, mCall, then_ok, thenS_ok, thenS_nx, thenS_ret, res_ret, res_nx, of_some, gT, gN, gsCons, gsNil, List.getElem?_cons_zero, List.getElem?_cons_succ, List.set_cons_zero, List.set_cons_succ, add_int, sub_int, mul_int, div_int, mod_int, lt_int, le_int, gt_int, ge_int, eq_int, ne_int, bl_bl, isD_enc, fTup, Nat.reduceLeDiff, reduceIte, decide_true, decide_false, Bool.not_true, Bool.not_false, Bool.false_eq_true, m_one_behind, hn, c_first (.node l x r) m [] hn (by omega) hb, c_lnk _ m a (first (.node l x r)).2 (first (.node l x r)).1 [] (Nat.le_refl _) (by omega) ha (even_first _ hb)]
    rfl
theorem tru_enc (t : T) (S : Store) : truD (enc t) S = some (!decide (t = .nil)) := by
  cases t <;> rfl
theorem c_less : ∀ (t : T) (n k : Nat) (S : Store), k < t.sz → t.ht + 7 ≤ n → t.even = true → callP (Fs n 12) [enc t, .int k] S = .ok (enc (less t k)) S
  | .nil, n, k, S, hk, h, hv => by simp only [T.sz] at hk; omega
  | .node l y r, n, k, S, hk, h, hv => by
    obtain ⟨m, rfl, h'⟩ := Fs_s (c := (T.node l y r).ht + 6) h
    refine callP_of (G := []) ?_ (by simp [D.pures, enc_pure, D.pure]) (enc_pure _) S
    obtain ⟨_, h3, h4⟩ := even_node.mp hv
    simp only [T.ht] at h'
    simp only [T.sz] at hk
    simp (disch := omega) only [Fs_i, bod, runF, List.length_cons, List.length_nil, Nat.zero_add, Nat.reduceAdd, if_true, if_false, List.map_cons, List.map_nil, Nat.reduceSub, List.replicate, List.cons_append, List.nil_append, sSeq, sIf, sRet, sSet, sAsg, sExp, sNil, mVar, mC, mOp, mFn, mUn, mNil, mCons, mTru, mBl, mNotT, mAndT, mOrT, mAnd, mOr, mNot, mChain, mCallP_eq, mCall, then_ok, thenS_ok, thenS_nx, thenS_ret, res_ret, res_nx, of_some, gT, gN, gsCons, gsNil, List.getElem?_cons_zero, List.getElem?_cons_succ, List.set_cons_zero, List.set_cons_succ, add_int, sub_int, mul_int, div_int, mod_int, lt_int, le_int, gt_int, ge_int, eq_int, ne_int, bl_bl, isD_enc, fTup, Nat.reduceLeDiff, reduceIte, decide_true, decide_false, Bool.not_true, Bool.not_false, Bool.false_eq_true, m_without_item, reduceCtorEq]
    rw [enc_node l y r, less]
    by_cases h1 : k < l.sz
    · have h1' : (k : Int) < l.sz := by omega
      simp (disch := omega) only [Fs_i, bod, runF, List.length_cons, List.length_nil, Nat.zero_add, Nat.reduceAdd, if_true, if_false, List.map_cons, List.map_nil, Nat.reduceSub, List.replicate, List.cons_append, List.nil_append, sSeq, sIf, sRet, sSet, sAsg, sExp, sNil, mVar, mC, mOp, mFn, mUn, mNil, mCons, mTru, mBl, mNotT, mAndT, mOrT, mAnd, mOr, mNot, mChain, mCallP_eq, mCall, then_ok, thenS_ok, thenS_nx, thenS_ret, res_ret, res_nx, of_some, gT, gN, gsCons, gsNil, List.getElem?_cons_zero, List.getElem?_cons_succ, List.set_cons_zero, List.set_cons_succ, add_int, sub_int, mul_int, div_int, mod_int, lt_int, le_int, gt_int, ge_int, eq_int, ne_int, bl_bl, isD_enc, fTup, Nat.reduceLeDiff, reduceIte, decide_true, decide_false, Bool.not_true, Bool.not_false, Bool.false_eq_true, c_count, h1, h1', c_less l m k [] (by omega) (by omega) h3, c_evd (n := m) (by omega) (less l k) r y [] (even_less l k (by omega) h3) h4]
    · have h1' : ¬ (k : Int) < l.sz := by omega
      by_cases h2 : l.sz < k
      · have h2' : (l.sz : Int) < k := by omega
        have e4 : (k : Int) - l.sz - 1 = ((k - l.sz - 1 : Nat) : Int) := by omega
        simp (disch := omega) only [Fs_i, bod, runF, List.length_cons, List.length_nil, Nat.zero_add, Nat.reduceAdd, if_true, if_false, List.map_cons, List.map_nil, Nat.reduceSub, List.replicate, List.cons_append, List.nil_append, sSeq, sIf, sRet, sSet, sAsg, sExp, sNil, mVar, mC, mOp, mFn, mUn, mNil, mCons, mTru, mBl, mNotT, mAndT, mOrT, mAnd, mOr, mNot, mChain, mCallP_eq, mCall, then_ok, thenS_ok, thenS_nx, thenS_ret, res_ret, res_nx, of_some, gT, gN, gsCons, gsNil, List.getElem?_cons_zero, List.getElem?_cons_succ, List.set_cons_zero, List.set_cons_succ, add_int, sub_int, mul_int, div_int, mod_int, lt_int, le_int, gt_int, ge_int, eq_int, ne_int, bl_bl, isD_enc, fTup, Nat.reduceLeDiff, reduceIte, decide_true, decide_false, Bool.not_true, Bool.not_false, Bool.false_eq_true, c_count, h1, h1', h2, h2', e4, c_less r m (k - l.sz - 1) [] (by omega) (by omega) h4, c_evd (n := m) (by omega) l (less r (k - l.sz - 1)) y [] h3 (even_less r _ (by omega) h4)]
      · have h2' : ¬ (l.sz : Int) < k := by omega
        by_cases n1 : l = .nil
        · have n1' : decide (l = T.nil) = true := decide_eq_true n1
          rw [if_neg h1, if_neg h2, if_pos n1]
          simp (disch := omega) only [Fs_i, bod, runF, List.length_cons, List.length_nil, Nat.zero_add, Nat.reduceAdd, if_true, if_false, List.map_cons, List.map_nil, Nat.reduceSub, List.replicate, List.cons_append, List.nil_append, sSeq, sIf, sRet, sSet, sAsg, sExp, sNil, mVar, mC, mOp, mFn, mUn, mNil, mCons, mTru, mBl, mNotT, mAndT, mOrT, mAnd, mOr, mNot, mChain, mCallP_eq, mCall, then_ok, thenS_ok, thenS_nx, thenS_ret, res_ret, res_nx, of_some, gT, gN, gsCons, gsNil, List.getElem?_cons_zero, List.getElem?_cons_succ, List.set_cons_zero, List.set_cons_succ, add_int, sub_int, mul_int, div_int, mod_int, lt_int, le_int, gt_int, ge_int, eq_int, ne_int, bl_bl, isD_enc, fTup, Nat.reduceLeDiff, reduceIte, decide_true, decide_false, Bool.not_true, Bool.not_false, Bool.false_eq_true, c_count, h1', h2', n1', tru_enc]
        · by_cases n2 : r = .nil
          · simp (disch := omega) only [Fs_i, bod, runF, List.length_cons, List.length_nil, Nat.zero_add, Nat.reduceAdd, if_true, if_false, List.map_cons, List.map_nil, Nat.reduceSub, List.replicate, List.cons_append, List.nil_append, sSeq, sIf, sRet, sSet, sAsg, sExp, sNil, mVar, mC, mOp, mFn, mUn, mNil, mCons, mTru, mBl, mNotT, mAndT, mOrT, mAnd, mOr, mNot, mChain, mCallP_eq, mCall, then_ok, thenS_ok, thenS_nx, thenS_ret, res_ret, res_nx, of_some, gT, gN, gsCons, gsNil, List.getElem?_cons_zero, List.getElem?_cons_succ, List.set_cons_zero, List.set_cons_succ, add_int, sub_int, mul_int, div_int, mod_int, lt_int, le_int, gt_int, ge_int, eq_int, ne_int, bl_bl, isD_enc, fTup, Nat.reduceLeDiff, reduceIte, decide_true, decide_false, Bool.not_true, Bool.not_false, Bool.false_eq_true, c_count, h1, h1', h2, h2', n1, n2, tru_enc]
          · simp (disch := omega) only [Fs_i, bod, runF, List.length_cons, List.length_nil, Nat.zero_add, Nat.reduceAdd, if_true, if_false, List.map_cons, List.map_nil, Nat.reduceSub, List.replicate, List.cons_append, List.nil_append, sSeq, sIf, sRet, sSet, sAsg, sExp, sNil, mVar, mC, mOp, mFn, mUn, mNil, mCons, mTru, mBl, mNotT, mAndT, mOrT, mAnd, mOr, mNot, mChain, mCallP_eq, mCall, then_ok, thenS_ok, thenS_nx, thenS_ret, res_ret, res_nx, of_some, gT, gN, gsCons, gsNil, List.getElem?_cons_zero, List.getElem?_cons_succ, List.set_cons_zero, List.set_cons_succ, add_int, sub_int, mul_int, div_int, mod_int, lt_int, le_int, gt_int, ge_int, eq_int, ne_int, bl_bl, isD_enc, fTup, Nat.reduceLeDiff, reduceIte, decide_true, decide_false, Bool.not_true, Bool.not_false, Bool.false_eq_true, c_count, h1, h1', h2, h2', n1, n2, c_first r m [] n2 (by omega) h4, c_evd (n := m) (by omega) l (first r).2 (first r).1 [] h3 (even_first r h4)]
theorem c_cut : ∀ (t : T) (n k : Nat) (S : Store), k ≤ t.sz → t.ht + 60 ≤ n → t.even = true → t.sz ≤ 1000 → callP (Fs n 13) [enc t, .int k] S = .ok (.tup [enc (cut t k).1, enc (cut t k).2]) S
  | .nil, n, k, S, hk, h, hv, hm => by
    obtain ⟨m, rfl, h'⟩ := Fs_s (c := 59) (Nat.le_trans (by omega) h)
    refine callP_of (G := []) ?_ (by simp [D.pures, enc_pure, D.pure]) (by simp [D.pures, enc_pure, D.pure]) S
    simp (disch := omega) only [Fs_i, bod, runF, List.length_cons, List.length_nil, Nat.zero_add, Nat.reduceAdd, if_true, if_false, List.map_cons, List.map_nil, Nat.reduceSub, List.replicate, List.cons_append, List.nil_append, sSeq, sIf, sRet, sSet, sAsg, sExp, sNil, mVar, mC, mOp, mFn, mUn, mNil, mCons, mTru, mBl, mNotT, mAndT, mOrT, mAnd, mOr, mNot, mChain, mCallP_eq, mCall, then_ok, thenS_ok, thenS_nx, thenS_ret, res_ret, res_nx, of_some, gT, gN, gsCons, gsNil, List.getElem?_cons_zero, List.getElem?_cons_succ, List.set_cons_zero, List.set_cons_succ, add_int, sub_int, mul_int, div_int, mod_int, lt_int, le_int, gt_int, ge_int, eq_int, ne_int, bl_bl, isD_enc, fTup, Nat.reduceLeDiff, reduceIte, decide_true, decide_false, Bool.not_true, Bool.not_false, Bool.false_eq_true, m_cut_at]; rfl
  | .node l y r, n, k, S, hk, h, hv, hm => by
    obtain ⟨m, rfl, h'⟩ := Fs_s (c := (T.node l y r).ht + 59) h
    refine callP_of (G := []) ?_ (by simp [D.pures, enc_pure, D.pure]) (by simp [D.pures, enc_pure, D.pure]) S
    obtain ⟨_, h3, h4⟩ := even_node.mp hv
    simp only [T.ht] at h'
    simp only [T.sz] at hk hm
    have q1 := ht_of h3 (by omega)
    have q2 := ht_of h4 (by omega)
    simp (disch := omega) only [Fs_i, bod, runF, List.length_cons, List.length_nil, Nat.zero_add, Nat.reduceAdd, if_true, if_false, List.map_cons, List.map_nil, Nat.reduceSub, List.replicate, List.cons_append, List.nil_append, sSeq, sIf, sRet, sSet, sAsg, sExp, sNil, mVar, mC, mOp, mFn, mUn, mNil, mCons, mTru, mBl, mNotT, mAndT, mOrT, mAnd, mOr, mNot, mChain, mCallP_eq, mCall, then_ok, thenS_ok, thenS_nx, thenS_ret, res_ret, res_nx, of_some, gT, gN, gsCons, gsNil, List.getElem?_cons_zero, List.getElem?_cons_succ, List.set_cons_zero, List.set_cons_succ, add_int, sub_int, mul_int, div_int, mod_int, lt_int, le_int, gt_int, ge_int, eq_int, ne_int, bl_bl, isD_enc, fTup, Nat.reduceLeDiff, reduceIte, decide_true, decide_false, Bool.not_true, Bool.not_false, Bool.false_eq_true, m_cut_at, reduceCtorEq]
    rw [enc_node l y r, cut]
    by_cases hk' : k ≤ l.sz
    · have hk2 : (k : Int) ≤ l.sz := by omega
      have ev := even_cut l k h3
      have sc := sz_cut l k hk'
      have q3 := ht_of ev.2 (by omega)
      simp (disch := omega) only [Fs_i, bod, runF, List.length_cons, List.length_nil, Nat.zero_add, Nat.reduceAdd, if_true, if_false, List.map_cons, List.map_nil, Nat.reduceSub, List.replicate, List.cons_append, List.nil_append, sSeq, sIf, sRet, sSet, sAsg, sExp, sNil, mVar, mC, mOp, mFn, mUn, mNil, mCons, mTru, mBl, mNotT, mAndT, mOrT, mAnd, mOr, mNot, mChain, mCallP_eq, mCall, then_ok, thenS_ok, thenS_nx, thenS_ret, res_ret, res_nx, of_some, gT, gN, gsCons, gsNil, List.getElem?_cons_zero, List.getElem?_cons_succ, List.set_cons_zero, List.set_cons_succ, add_int, sub_int, mul_int, div_int, mod_int, lt_int, le_int, gt_int, ge_int, eq_int, ne_int, bl_bl, isD_enc, fTup, Nat.reduceLeDiff, reduceIte, decide_true, decide_false, Bool.not_true, Bool.not_false, Bool.false_eq_true, c_count, hk', hk2, c_cut l m k [] hk' (by omega) h3 (by omega), c_lnk _ m (cut l k).2 r y [] (Nat.le_refl _) (by omega) ev.2 h4]
    · have hk2 : ¬ (k : Int) ≤ l.sz := by omega
      have e4 : (k : Int) - l.sz - 1 = ((k - l.sz - 1 : Nat) : Int) := by omega
      have ev := even_cut r (k - l.sz - 1) h4
      have sc := sz_cut r (k - l.sz - 1) (by omega)
      have q3 := ht_of ev.1 (by omega)
      simp (disch := omega) only [Fs_i, bod, runF, List.length_cons, List.length_nil, Nat.zero_add, Nat.reduceAdd, if_true, if_false, List.map_cons, List.map_nil, Nat.reduceSub, List.replicate, List.cons_append, List.nil_append, sSeq, sIf, sRet, sSet, sAsg, sExp, sNil, mVar, mC, mOp, mFn, mUn, mNil, mCons, mTru, mBl, mNotT, mAndT, mOrT, mAnd, mOr, mNot, mChain, mCallP_eq, mCall, then_ok, thenS_ok, thenS_nx, thenS_ret, res_ret, res_nx, of_some, gT, gN, gsCons, gsNil, List.getElem?_cons_zero, List.getElem?_cons_succ, List.set_cons_zero, List.set_cons_succ, add_int, sub_int, mul_int, div_int, mod_int, lt_int, le_int, gt_int, ge_int, eq_int, ne_int, bl_bl, isD_enc, fTup, Nat.reduceLeDiff, reduceIte, decide_true, decide_false, Bool.not_true, Bool.not_false, Bool.false_eq_true, c_count, hk', hk2, e4, c_cut r m (k - l.sz - 1) [] (by omega) (by omega) h4 (by omega), c_lnk _ m l (cut r (k - l.sz - 1)).1 y [] (Nat.le_refl _) (by omega) h3 ev.1]
end K68

set_option Elab.async false
set_option linter.all false
set_option maxRecDepth 100000
set_option maxHeartbeats 4000000
namespace K68
open PySem PySem.Spec PyProof.Rows L2 L3
/-! ### items -/
def T.all (P : Int → Prop) : T → Prop
  | .nil => True
  | .node l x r => l.all P ∧ P x ∧ r.all P
section
variable {P : Int → Prop}
theorem all_tl {l r : T} {x : Int} (hl : l.all P) (hx : P x) (hr : r.all P) : (tl l x r).all P := by
  unfold tl
  split
  · exact ⟨hl, hx, hr⟩
  · rename_i i o u
    obtain ⟨a, b, c⟩ := hr
    split
    · exact ⟨⟨hl, hx, a⟩, b, c⟩
    · split
      · exact ⟨hl, hx, a, b, c⟩
      · obtain ⟨a1, a2, a3⟩ := a
        exact ⟨⟨hl, hx, a1⟩, a2, a3, b, c⟩
theorem all_tr {l r : T} {x : Int} (hl : l.all P) (hx : P x) (hr : r.all P) : (tr l x r).all P := by
  unfold tr
  split
  · exact ⟨hl, hx, hr⟩
  · rename_i u o i
    obtain ⟨a, b, c⟩ := hl
    split
    · exact ⟨a, b, c, hx, hr⟩
    · split
      · exact ⟨⟨a, b, c⟩, hx, hr⟩
      · obtain ⟨c1, c2, c3⟩ := c
        exact ⟨⟨a, b, c1⟩, c2, c3, hx, hr⟩
theorem all_evd {l r : T} {x : Int} (hl : l.all P) (hx : P x) (hr : r.all P) : (evd l x r).all P := by
  unfold evd
  split
  · exact ⟨hl, hx, hr⟩
  · split
    · exact all_tl hl hx hr
    · exact all_tr hl hx hr
theorem all_lnk : ∀ (n : Nat) (l : T) (x : Int) (r : T), l.sz + r.sz ≤ n → l.all P → P x → r.all P → (lnk l x r).all P
  | n, l, x, r, hn, hl, hx, hr => by
    rcases lnk_cases l x r with ⟨_, e⟩ | ⟨_, hs, i, o, u, rfl, e⟩ | ⟨_, hs, u, o, i, rfl, e⟩
    · rw [e]; exact ⟨hl, hx, hr⟩
    · rw [e]
      simp only [T.sz] at hn
      obtain ⟨a, b, c⟩ := hr
      exact all_evd (all_lnk (n - 1) l x i (by omega) hl hx a) b c
    · rw [e]
      simp only [T.sz] at hn
      obtain ⟨a, b, c⟩ := hl
      exact all_evd a b (all_lnk (n - 1) i x r (by omega) c hx hr)
termination_by n => n
decreasing_by all_goals omega
theorem all_lnk' {l r : T} {x : Int} (hl : l.all P) (hx : P x) (hr : r.all P) : (lnk l x r).all P := all_lnk _ l x r (Nat.le_refl _) hl hx hr
theorem all_more : ∀ {t : T} {k : Nat} {v : Int}, t.all P → P v → (more t k v).all P
  | .nil, _, _, _, hv => ⟨trivial, hv, trivial⟩
  | .node l x r, k, v, ⟨a, b, c⟩, hv => by
    unfold more
    split
    · exact all_evd (all_more a hv) b c
    · exact all_evd a b (all_more c hv)
theorem all_first : ∀ {t : T}, t ≠ .nil → t.all P → P (first t).1 ∧ (first t).2.all P
  | .nil, h, _ => absurd rfl h
  | .node .nil x r, _, ⟨_, b, c⟩ => by rw [first]; exact ⟨b, c⟩
  | .node (.node p q s) x r, _, ⟨a, b, c⟩ => by
    have hn : T.node p q s ≠ .nil := by intro z; cases z
    rw [first_node hn]
    obtain ⟨i1, i2⟩ := all_first hn a
    exact ⟨i1, all_evd i2 b c⟩
theorem all_both {a b : T} (ha : a.all P) (hb : b.all P) : (both a b).all P := by
  cases b with
  | nil => exact ha
  | node l x r =>
    obtain ⟨i1, i2⟩ := all_first (t := .node l x r) (by intro z; cases z) hb
    exact all_lnk' ha i1 i2
theorem all_less : ∀ {t : T} {k : Nat}, t.all P → (less t k).all P
  | .nil, _, _ => trivial
  | .node l x r, k, ⟨a, b, c⟩ => by
    unfold less
    split
    · exact all_evd (all_less a) b c
    · split
      · exact all_evd a b (all_less c)
      · split
        · exact c
        · split
          · exact a
          · rename_i hr
            obtain ⟨i1, i2⟩ := all_first hr c
            exact all_evd a i1 i2
theorem all_cut : ∀ {t : T} {k : Nat}, t.all P → (cut t k).1.all P ∧ (cut t k).2.all P
  | .nil, _, _ => ⟨trivial, trivial⟩
  | .node l x r, k, ⟨a, b, c⟩ => by
    unfold cut
    split
    · exact ⟨(all_cut a).1, all_lnk' (all_cut a).2 b c⟩
    · exact ⟨all_lnk' a b (all_cut c).1, (all_cut c).2⟩
end

/-! ### the checks -/
theorem kd_int (x : Int) (S : Store) : kindD (.int x) S = some "int" := rfl
theorem kd_enc (t : T) (S : Store) : kindD (enc t) S = some (if t = .nil then "NoneType" else "tuple") := by cases t <;> rfl
theorem ki1 : kitKs "int" ["int", "str"] = some true := by decide +kernel
theorem ki2 : kitKs "int" ["bool"] = some false := by decide +kernel
theorem ki3 : kitKs "int" ["tuple"] = some false := by decide +kernel
theorem ki4 : kitKs "tuple" ["tuple"] = some true := by decide +kernel
theorem ki5 : kitKs "int" ["int"] = some true := by decide +kernel
theorem c_plain {n : Nat} (h : 1 ≤ n) (x : Int) (S : Store) : callP (Fs n 14) [.int x] S = .ok (.bl true) S := by
  obtain ⟨m, rfl, h'⟩ := Fs_s (c := 0) h
  refine callP_of (G := []) ?_ rfl rfl S
  simp (disch := omega) only [Fs_i, bod, runF, List.length_cons, List.length_nil, Nat.zero_add, Nat.reduceAdd, if_true, if_false, List.map_cons, List.map_nil, Nat.reduceSub, List.replicate, List.cons_append, List.nil_append, sSeq, sIf, sRet, sSet, sAsg, sExp, sNil, mVar, mC, mOp, mFn, mUn, mNil, mCons, mTru, mBl, mNotT, mAndT, mOrT, mAnd, mOr, mNot, mChain, mCallP_eq, mCall, then_ok, thenS_ok, thenS_nx, thenS_ret, res_ret, res_nx, of_some, gT, gN, gsCons, gsNil, List.getElem?_cons_zero, List.getElem?_cons_succ, List.set_cons_zero, List.set_cons_succ, add_int, sub_int, mul_int, div_int, mod_int, lt_int, le_int, gt_int, ge_int, eq_int, ne_int, bl_bl, isD_enc, fTup, Nat.reduceLeDiff, reduceIte, decide_true, decide_false, Bool.not_true, Bool.not_false, Bool.false_eq_true, m_is_plain, mIsi, kd_int, ki1, ki2]
theorem c_item {n : Nat} (h : 2 ≤ n) (x : Int) (S : Store) : callP (Fs n 15) [.int x] S = .ok (.bl true) S := by
  obtain ⟨m, rfl, h'⟩ := Fs_s (c := 1) h
  refine callP_of (G := []) ?_ rfl rfl S
  simp (disch := omega) only [Fs_i, bod, runF, List.length_cons, List.length_nil, Nat.zero_add, Nat.reduceAdd, if_true, if_false, List.map_cons, List.map_nil, Nat.reduceSub, List.replicate, List.cons_append, List.nil_append, sSeq, sIf, sRet, sSet, sAsg, sExp, sNil, mVar, mC, mOp, mFn, mUn, mNil, mCons, mTru, mBl, mNotT, mAndT, mOrT, mAnd, mOr, mNot, mChain, mCallP_eq, mCall, then_ok, thenS_ok, thenS_nx, thenS_ret, res_ret, res_nx, of_some, gT, gN, gsCons, gsNil, List.getElem?_cons_zero, List.getElem?_cons_succ, List.set_cons_zero, List.set_cons_succ, add_int, sub_int, mul_int, div_int, mod_int, lt_int, le_int, gt_int, ge_int, eq_int, ne_int, bl_bl, isD_enc, fTup, Nat.reduceLeDiff, reduceIte, decide_true, decide_false, Bool.not_true, Bool.not_false, Bool.false_eq_true, m_is_item, mIsi, kd_int, ki3, c_plain]
theorem len_tup (xs : List D) (S : Store) : lenD [.tup xs] S = some (.int xs.length, S) := rfl
theorem neg_int (i : Int) (S : Store) : negD (.int i) S = some (.int (-i), S) := rfl
theorem max_int (i j : Int) (S : Store) : maxD [.int i, .int j] S = some (.int (if j > i then j else i), S) := rfl
theorem min_int (i j : Int) (S : Store) : minD [.int i, .int j] S = some (.int (if j < i then j else i), S) := rfl
theorem ix_3 (a b c d : D) (S : Store) : ixD (.tup [a, b, c, d]) (.int 3) S = some (d, S) := rfl
theorem c_told {n : Nat} (h : 1 ≤ n) (t : T) (S : Store) : callP (Fs n 16) [enc t] S = .ok (.int t.sz) S := by
  obtain ⟨m, rfl, h'⟩ := Fs_s (c := 0) h
  refine callP_of (G := []) ?_ (by simp [D.pures, enc_pure]) rfl S
  cases t with
  | nil => simp (disch := omega) only [Fs_i, bod, runF, List.length_cons, List.length_nil, Nat.zero_add, Nat.reduceAdd, if_true, if_false, List.map_cons, List.map_nil, Nat.reduceSub, List.replicate, List.cons_append, List.nil_append, sSeq, sIf, sRet, sSet, sAsg, sExp, sNil, mVar, mC, mOp, mFn, mUn, mNil, mCons, mTru, mBl, mNotT, mAndT, mOrT, mAnd, mOr, mNot, mChain, mCallP_eq, mCall, then_ok, thenS_ok, thenS_nx, thenS_ret, res_ret, res_nx, of_some, gT, gN, gsCons, gsNil, List.getElem?_cons_zero, List.getElem?_cons_succ, List.set_cons_zero, List.set_cons_succ, add_int, sub_int, mul_int, div_int, mod_int, lt_int, le_int, gt_int, ge_int, eq_int, ne_int, bl_bl, isD_enc, fTup, Nat.reduceLeDiff, reduceIte, decide_true, decide_false, Bool.not_true, Bool.not_false, Bool.false_eq_true, m_told_count]; rfl
  | node l x r =>
    have e : ((l.sz + 1 + r.sz : Nat) : Int) > -1 := by omega
    simp (disch := omega) only [Fs_i, bod, runF, List.length_cons, List.length_nil, Nat.zero_add, Nat.reduceAdd, if_true, if_false, List.map_cons, List.map_nil, Nat.reduceSub, List.replicate, List.cons_append, List.nil_append, sSeq, sIf, sRet, sSet, sAsg, sExp, sNil, mVar, mC, mOp, mFn, mUn, mNil, mCons, mTru, mBl, mNotT, mAndT, mOrT, mAnd, mOr, mNot, mChain, mCallP_eq, mCall, then_ok, thenS_ok, thenS_nx, thenS_ret, res_ret, res_nx, of_some, gT, gN, gsCons, gsNil, List.getElem?_cons_zero, List.getElem?_cons_succ, List.set_cons_zero, List.set_cons_succ, add_int, sub_int, mul_int, div_int, mod_int, lt_int, le_int, gt_int, ge_int, eq_int, ne_int, bl_bl, isD_enc, fTup, Nat.reduceLeDiff, reduceIte, decide_true, decide_false, Bool.not_true, Bool.not_false, Bool.false_eq_true, m_told_count, reduceCtorEq, enc_node, mIsi, kindD, ki4, ki5, ki2, len_tup, neg_int, max_int, ix_3, Int.cast_ofNat_Int, e]
    rfl
theorem ls_0 (xs : List D) : ([O.lst xs] : Store)[0]? = some (.lst xs) := rfl
theorem c_evenof : ∀ (t : T) (n : Nat) (S : Store), t.ht + 4 ≤ n → t.even = true → callP (Fs n 17) [enc t, .int t.sz] S = .ok (.bl true) S
  | .nil, n, S, h, hv => by
    obtain ⟨m, rfl, h'⟩ := Fs_s (c := 3) (Nat.le_trans (by omega) h)
    exact callP_of (G := []) rfl rfl rfl S
  | .node l x r, n, S, h, hv => by
    obtain ⟨m, rfl, h'⟩ := Fs_s (c := (T.node l x r).ht + 3) h
    obtain ⟨hev, h3, h4⟩ := even_node.mp hv
    have hev : ev l.sz r.sz = true := ev_iff.mpr hev
    simp only [T.ht] at h'
    have e1 : ¬ ((T.node l x r).sz : Int) = 0 := by simp only [T.sz]; omega
    have e2 : ∀ S : Store, minD [.ref 0] S = overL (fun ns => if ns ≠ [] then some (.int (minI ns)) else none) [.ref 0] S := fun _ => rfl
    refine callP_of (G := [.lst [.int l.sz, .int r.sz]]) ?_ (by simp [D.pures, enc_pure, D.pure]) rfl S
    have q1 : ∀ (ds : List D), fLst ds [] = (if ds.length ≤ 16777216 then some (.ref 0, [.lst ds]) else none) := fun _ => rfl
    have q2 : minD [.ref 0] [.lst [.int l.sz, .int r.sz]] = some (.int (min (l.sz : Int) r.sz), [.lst [.int l.sz, .int r.sz]]) := rfl
    have q3 : sumD [.ref 0] [.lst [.int l.sz, .int r.sz]] = some (.int ((l.sz : Int) + ((r.sz : Int) + 0)), [.lst [.int l.sz, .int r.sz]]) := rfl
    have q4 : ∀ a b : D, ixD (.ref 0) (.int 0) [.lst [a, b]] = some (a, [.lst [a, b]]) := fun _ _ => rfl
    have q5 : ∀ a b : D, ixD (.ref 0) (.int 1) [.lst [a, b]] = some (b, [.lst [a, b]]) := fun _ _ => rfl
    have q6 : ¬ min (l.sz : Int) r.sz < 0 := by omega
    have q7 : (l.sz : Int) + ((r.sz : Int) + 0) + 1 = (T.node l x r).sz := by simp only [T.sz]; omega
    rw [enc_node l x r]
    simp (disch := omega) only [Fs_i, bod, runF, List.length_cons, List.length_nil, Nat.zero_add, Nat.reduceAdd, if_true, if_false, List.map_cons, List.map_nil, Nat.reduceSub, List.replicate, List.cons_append, List.nil_append, sSeq, sIf, sRet, sSet, sAsg, sExp, sNil, mVar, mC, mOp, mFn, mUn, mNil, mCons, mTru, mBl, mNotT, mAndT, mOrT, mAnd, mOr, mNot, mChain, mCallP_eq, mCall, then_ok, thenS_ok, thenS_nx, thenS_ret, res_ret, res_nx, of_some, gT, gN, gsCons, gsNil, List.getElem?_cons_zero, List.getElem?_cons_succ, List.set_cons_zero, List.set_cons_succ, add_int, sub_int, mul_int, div_int, mod_int, lt_int, le_int, gt_int, ge_int, eq_int, ne_int, bl_bl, isD_enc, fTup, Nat.reduceLeDiff, reduceIte, decide_true, decide_false, Bool.not_true, Bool.not_false, Bool.false_eq_true, m_is_even_of, e1, c_told, q1, q2, q3, q4, q5, q6, q7, c_are, hev, c_item, c_evenof l m _ (by omega) h3, c_evenof r m _ (by omega) h4, not_true]
theorem c_even {n : Nat} (h : 40 ≤ n) (t : T) (hv : t.even = true) (hs : t.sz ≤ 1000) (S : Store) : callP (Fs n 18) [enc t] S = .ok (.bl true) S := by
  obtain ⟨m, rfl, h'⟩ := Fs_s (c := 39) h
  refine callP_of (G := []) ?_ (by simp [D.pures, enc_pure]) rfl S
  have q1 := ht_of hv hs
  have e1 : (0 : Int) ≤ t.sz := by omega
  have e2 : (t.sz : Int) ≤ 1000 := by omega
  simp (disch := omega) only [Fs_i, bod, runF, List.length_cons, List.length_nil, Nat.zero_add, Nat.reduceAdd, if_true, if_false, List.map_cons, List.map_nil, Nat.reduceSub, List.replicate, List.cons_append, List.nil_append, sSeq, sIf, sRet, sSet, sAsg, sExp, sNil, mVar, mC, mOp, mFn, mUn, mNil, mCons, mTru, mBl, mNotT, mAndT, mOrT, mAnd, mOr, mNot, mChain, mCallP_eq, mCall, then_ok, thenS_ok, thenS_nx, thenS_ret, res_ret, res_nx, of_some, gT, gN, gsCons, gsNil, List.getElem?_cons_zero, List.getElem?_cons_succ, List.set_cons_zero, List.set_cons_succ, add_int, sub_int, mul_int, div_int, mod_int, lt_int, le_int, gt_int, ge_int, eq_int, ne_int, bl_bl, isD_enc, fTup, Nat.reduceLeDiff, reduceIte, decide_true, decide_false, Bool.not_true, Bool.not_false, Bool.false_eq_true, m_is_even, c_told, e1, e2, c_evenof t m [] (by omega) hv]
theorem c_looktie {n : Nat} (h : 41 ≤ n) (t : T) (hv : t.even = true) (hs : t.sz ≤ 1000) (S : Store) : callP (Fs n 19) [enc t] S = .ok .non S := by
  obtain ⟨m, rfl, h'⟩ := Fs_s (c := 40) h
  refine callP_of (G := []) ?_ (by simp [D.pures, enc_pure]) rfl S
  simp (disch := omega) only [Fs_i, bod, runF, List.length_cons, List.length_nil, Nat.zero_add, Nat.reduceAdd, if_true, if_false, List.map_cons, List.map_nil, Nat.reduceSub, List.replicate, List.cons_append, List.nil_append, sSeq, sIf, sRet, sSet, sAsg, sExp, sNil, mVar, mC, mOp, mFn, mUn, mNil, mCons, mTru, mBl, mNotT, mAndT, mOrT, mAnd, mOr, mNot, mChain, mCallP_eq, mCall, then_ok, thenS_ok, thenS_nx, thenS_ret, res_ret, res_nx, of_some, gT, gN, gsCons, gsNil, List.getElem?_cons_zero, List.getElem?_cons_succ, List.set_cons_zero, List.set_cons_succ, add_int, sub_int, mul_int, div_int, mod_int, lt_int, le_int, gt_int, ge_int, eq_int, ne_int, bl_bl, isD_enc, fTup, Nat.reduceLeDiff, reduceIte, decide_true, decide_false, Bool.not_true, Bool.not_false, Bool.false_eq_true, m_look_tie, c_even h' t hv hs]
theorem c_lookitem {n : Nat} (h : 1 ≤ n) (t : T) (a b : Int) (h1 : 0 ≤ a) (h2 : a ≤ b) (S : Store) : callP (Fs n 20) [enc t, .int a, .int b] S = .ok .non S := by
  obtain ⟨m, rfl, h'⟩ := Fs_s (c := 0) h
  refine callP_of (G := []) ?_ (by simp [D.pures, enc_pure, D.pure]) rfl S
  simp (disch := omega) only [Fs_i, bod, runF, List.length_cons, List.length_nil, Nat.zero_add, Nat.reduceAdd, if_true, if_false, List.map_cons, List.map_nil, Nat.reduceSub, List.replicate, List.cons_append, List.nil_append, sSeq, sIf, sRet, sSet, sAsg, sExp, sNil, mVar, mC, mOp, mFn, mUn, mNil, mCons, mTru, mBl, mNotT, mAndT, mOrT, mAnd, mOr, mNot, mChain, mCallP_eq, mCall, then_ok, thenS_ok, thenS_nx, thenS_ret, res_ret, res_nx, of_some, gT, gN, gsCons, gsNil, List.getElem?_cons_zero, List.getElem?_cons_succ, List.set_cons_zero, List.set_cons_succ, add_int, sub_int, mul_int, div_int, mod_int, lt_int, le_int, gt_int, ge_int, eq_int, ne_int, bl_bl, isD_enc, fTup, Nat.reduceLeDiff, reduceIte, decide_true, decide_false, Bool.not_true, Bool.not_false, Bool.false_eq_true, m_look_item, mIsi, kd_int, ki5, ki2, h1, h2]
theorem c_put {n : Nat} (h : 100 ≤ n) (t : T) (k : Nat) (x : Int) (hv : t.even = true) (hs : t.sz < 1000) (hk : k ≤ t.sz) (S : Store) : callP (Fs n 22) [enc t, .int k, .int x] S = .ok (enc (more t k x)) S := by
  obtain ⟨m, rfl, h'⟩ := Fs_s (c := 99) h
  refine callP_of (G := []) ?_ (by simp [D.pures, enc_pure, D.pure]) (enc_pure _) S
  have q1 := ht_of hv (by omega)
  have e1 : ¬ (t.sz : Int) = 1000 := by omega
  simp (disch := omega) only [Fs_i, bod, runF, List.length_cons, List.length_nil, Nat.zero_add, Nat.reduceAdd, if_true, if_false, List.map_cons, List.map_nil, Nat.reduceSub, List.replicate, List.cons_append, List.nil_append, sSeq, sIf, sRet, sSet, sAsg, sExp, sNil, mVar, mC, mOp, mFn, mUn, mNil, mCons, mTru, mBl, mNotT, mAndT, mOrT, mAnd, mOr, mNot, mChain, mCallP_eq, mCall, then_ok, thenS_ok, thenS_nx, thenS_ret, res_ret, res_nx, of_some, gT, gN, gsCons, gsNil, List.getElem?_cons_zero, List.getElem?_cons_succ, List.set_cons_zero, List.set_cons_succ, add_int, sub_int, mul_int, div_int, mod_int, lt_int, le_int, gt_int, ge_int, eq_int, ne_int, bl_bl, isD_enc, fTup, Nat.reduceLeDiff, reduceIte, decide_true, decide_false, Bool.not_true, Bool.not_false, Bool.false_eq_true, m_put_at, c_looktie (n := m) (by omega) t hv (by omega) [], c_count, c_lookitem (n := m) (by omega) t k t.sz (by omega) (by omega) [], c_item, e1, c_more t m k x [] (by omega) hv]
theorem c_out {n : Nat} (h : 100 ≤ n) (t : T) (k : Nat) (hv : t.even = true) (hs : t.sz ≤ 1000) (hk : k < t.sz) (S : Store) : callP (Fs n 23) [enc t, .int k] S = .ok (enc (less t k)) S := by
  obtain ⟨m, rfl, h'⟩ := Fs_s (c := 99) h
  refine callP_of (G := []) ?_ (by simp [D.pures, enc_pure, D.pure]) (enc_pure _) S
  have q1 := ht_of hv (by omega)
  simp (disch := omega) only [Fs_i, bod, runF, List.length_cons, List.length_nil, Nat.zero_add, Nat.reduceAdd, if_true, if_false, List.map_cons, List.map_nil, Nat.reduceSub, List.replicate, List.cons_append, List.nil_append, sSeq, sIf, sRet, sSet, sAsg, sExp, sNil, mVar, mC, mOp, mFn, mUn, mNil, mCons, mTru, mBl, mNotT, mAndT, mOrT, mAnd, mOr, mNot, mChain, mCallP_eq, mCall, then_ok, thenS_ok, thenS_nx, thenS_ret, res_ret, res_nx, of_some, gT, gN, gsCons, gsNil, List.getElem?_cons_zero, List.getElem?_cons_succ, List.set_cons_zero, List.set_cons_succ, add_int, sub_int, mul_int, div_int, mod_int, lt_int, le_int, gt_int, ge_int, eq_int, ne_int, bl_bl, isD_enc, fTup, Nat.reduceLeDiff, reduceIte, decide_true, decide_false, Bool.not_true, Bool.not_false, Bool.false_eq_true, m_out_at, c_looktie (n := m) (by omega) t hv (by omega) [], c_count, c_lookitem (n := m) (by omega) t k ((t.sz : Int) - 1) (by omega) (by omega) [], c_less t m k [] hk (by omega) hv]
theorem c_parted {n : Nat} (h : 100 ≤ n) (t : T) (k : Nat) (hv : t.even = true) (hs : t.sz ≤ 1000) (hk : k ≤ t.sz) (S : Store) : callP (Fs n 24) [enc t, .int k] S = .ok (.tup [enc (cut t k).1, enc (cut t k).2]) S := by
  obtain ⟨m, rfl, h'⟩ := Fs_s (c := 99) h
  refine callP_of (G := []) ?_ (by simp [D.pures, enc_pure, D.pure]) (by simp [D.pures, enc_pure, D.pure]) S
  have q1 := ht_of hv (by omega)
  simp (disch := omega) only [Fs_i, bod, runF, List.length_cons, List.length_nil, Nat.zero_add, Nat.reduceAdd, if_true, if_false, List.map_cons, List.map_nil, Nat.reduceSub, List.replicate, List.cons_append, List.nil_append, sSeq, sIf, sRet, sSet, sAsg, sExp, sNil, mVar, mC, mOp, mFn, mUn, mNil, mCons, mTru, mBl, mNotT, mAndT, mOrT, mAnd, mOr, mNot, mChain, mCallP_eq, mCall, then_ok, thenS_ok, thenS_nx, thenS_ret, res_ret, res_nx, of_some, gT, gN, gsCons, gsNil, List.getElem?_cons_zero, List.getElem?_cons_succ, List.set_cons_zero, List.set_cons_succ, add_int, sub_int, mul_int, div_int, mod_int, lt_int, le_int, gt_int, ge_int, eq_int, ne_int, bl_bl, isD_enc, fTup, Nat.reduceLeDiff, reduceIte, decide_true, decide_false, Bool.not_true, Bool.not_false, Bool.false_eq_true, m_parted, c_looktie (n := m) (by omega) t hv (by omega) [], c_count, c_lookitem (n := m) (by omega) t k t.sz (by omega) (by omega) [], c_cut t m k [] hk (by omega) hv hs]
theorem c_tboth {n : Nat} (h : 101 ≤ n) (a b : T) (ha : a.even = true) (hb : b.even = true) (hs : a.sz + b.sz ≤ 1000) (S : Store) : callP (Fs n 25) [enc a, enc b] S = .ok (enc (both a b)) S := by
  obtain ⟨m, rfl, h'⟩ := Fs_s (c := 100) h
  refine callP_of (G := []) ?_ (by simp [D.pures, enc_pure, D.pure]) (enc_pure _) S
  have e1 : ¬ (1000 : Int) < (a.sz : Int) + b.sz := by omega
  simp (disch := omega) only [Fs_i, bod, runF, List.length_cons, List.length_nil, Nat.zero_add, Nat.reduceAdd, if_true, if_false, List.map_cons, List.map_nil, Nat.reduceSub, List.replicate, List.cons_append, List.nil_append, sSeq, sIf, sRet, sSet, sAsg, sExp, sNil, mVar, mC, mOp, mFn, mUn, mNil, mCons, mTru, mBl, mNotT, mAndT, mOrT, mAnd, mOr, mNot, mChain, mCallP_eq, mCall, then_ok, thenS_ok, thenS_nx, thenS_ret, res_ret, res_nx, of_some, gT, gN, gsCons, gsNil, List.getElem?_cons_zero, List.getElem?_cons_succ, List.set_cons_zero, List.set_cons_succ, add_int, sub_int, mul_int, div_int, mod_int, lt_int, le_int, gt_int, ge_int, eq_int, ne_int, bl_bl, isD_enc, fTup, Nat.reduceLeDiff, reduceIte, decide_true, decide_false, Bool.not_true, Bool.not_false, Bool.false_eq_true, m_tied_both, c_looktie (n := m) (by omega) a ha (by omega) [], c_looktie (n := m) (by omega) b hb (by omega) [], c_count, e1, c_both (n := m) a b [] (by omega) ha hb (by omega) (by omega)]

/-! ### steps -/
theorem wl_s (t : MT) (b : MS) (n : Nat) (E : En) (S : Store) : wLoop t b (n + 1) E S = (t E S).thenS E fun c S1 => if c then (match b E S1 with
    | .nx E' S' => wLoop t b n E' S'
    | .ct E' S' => wLoop t b n E' S'
    | .bk E' S' => .nx E' S'
    | .ret d S' => .ret d S'
    | .exc c fs E' S' => .exc c fs E' S'
    | .no => .no) else .nx E S1 := rfl
def stB : MS := (sSeq (sSet 2 (mOp divD (mOp mulD (mVar 2) (mC (.int 3))) (mC (.int 4)))) (sAug 1 addI (mC (.int 1))))
theorem w_steps1 (x : Int) (n : Nat) (w : Nat) (f : Int) (S : Store) (h : w < 2) : wLoop (mBl (mOp geD (mVar 2) (mC (.int 2)))) stB (n + 1) [some (.int x), some (.int f), some (.int w)] S = .nx [some (.int x), some (.int f), some (.int w)] S := by
  have e : ¬ (2 : Int) ≤ w := by omega
  rw [wl_s]
  simp (disch := omega) only [Fs_i, bod, runF, List.length_cons, List.length_nil, Nat.zero_add, Nat.reduceAdd, if_true, if_false, List.map_cons, List.map_nil, Nat.reduceSub, List.replicate, List.cons_append, List.nil_append, sSeq, sIf, sRet, sSet, sAsg, sExp, sNil, mVar, mC, mOp, mFn, mUn, mNil, mCons, mTru, mBl, mNotT, mAndT, mOrT, mAnd, mOr, mNot, mChain, mCallP_eq, mCall, then_ok, thenS_ok, thenS_nx, thenS_ret, res_ret, res_nx, of_some, gT, gN, gsCons, gsNil, List.getElem?_cons_zero, List.getElem?_cons_succ, List.set_cons_zero, List.set_cons_succ, add_int, sub_int, mul_int, div_int, mod_int, lt_int, le_int, gt_int, ge_int, eq_int, ne_int, bl_bl, isD_enc, fTup, Nat.reduceLeDiff, reduceIte, decide_true, decide_false, Bool.not_true, Bool.not_false, Bool.false_eq_true, e]

theorem st_q1 (w : Nat) (S : Store) : mulD (.int w) (.int 3) S = some (.int (w * 3), S) := mul_int _ _ _ (by omega)
theorem st_q2 (w : Nat) (S : Store) : divD (.int (w * 3)) (.int 4) S = some (.int (w * 3 / 4), S) := div_int _ _ _ (by omega)
theorem st_q3 (x f y : Int) (S : Store) : sAug 1 addI (mC (.int 1)) [some (.int x), some (.int f), some (.int y)] S = .nx [some (.int x), some (.int (f + 1)), some (.int y)] S := rfl

theorem mOp_ok {f : F2} {a b : ME} {E : En} {S S1 S2 S3 : Store} {x y z : D} (h1 : a E S = .ok x S1) (h2 : b E S1 = .ok y S2) (h3 : f x y S2 = some (z, S3)) : mOp f a b E S = .ok z S3 := by
  unfold mOp; rw [h1, then_ok, h2, then_ok, h3]; rfl
theorem sSet_ok {i : Nat} {a : ME} {E : En} {S S1 : Store} {x : D} (h1 : a E S = .ok x S1) : sSet i a E S = .nx (E.set i (some x)) S1 := by
  unfold sSet; rw [h1]; rfl
theorem st_q4 (x f : Int) (w : Nat) (S : Store) : sSet 2 (mOp divD (mOp mulD (mVar 2) (mC (.int 3))) (mC (.int 4))) [some (.int x), some (.int f), some (.int w)] S = .nx [some (.int x), some (.int f), some (.int (w * 3 / 4))] S :=
  sSet_ok (mOp_ok (mOp_ok rfl rfl (st_q1 w S)) rfl (st_q2 w S))
theorem w_steps2 (x : Int) (n : Nat) (w : Nat) (f : Int) (S : Store) (h : ¬ w < 2) : wLoop (mBl (mOp geD (mVar 2) (mC (.int 2)))) stB (n + 1) [some (.int x), some (.int f), some (.int w)] S = wLoop (mBl (mOp geD (mVar 2) (mC (.int 2)))) stB n [some (.int x), some (.int (f + 1)), some (.int (w * 3 / 4))] S := by
  have e : (2 : Int) ≤ w := by omega
  have e2 : stB [some (.int x), some (.int f), some (.int w)] S = .nx [some (.int x), some (.int (f + 1)), some (.int (w * 3 / 4))] S := by
    unfold stB sSeq
    rw [st_q4, thenS_nx, st_q3]
  rw [wl_s]
  have e1 : mBl (mOp geD (mVar 2) (mC (.int 2))) [some (.int x), some (.int f), some (.int w)] S = .ok true S := by simp (disch := omega) only [Fs_i, bod, runF, List.length_cons, List.length_nil, Nat.zero_add, Nat.reduceAdd, if_true, if_false, List.map_cons, List.map_nil, Nat.reduceSub, List.replicate, List.cons_append, List.nil_append, sSeq, sIf, sRet, sSet, sAsg, sExp, sNil, mVar, mC, mOp, mFn, mUn, mNil, mCons, mTru, mBl, mNotT, mAndT, mOrT, mAnd, mOr, mNot, mChain, mCallP_eq, mCall, then_ok, thenS_ok, thenS_nx, thenS_ret, res_ret, res_nx, of_some, gT, gN, gsCons, gsNil, List.getElem?_cons_zero, List.getElem?_cons_succ, List.set_cons_zero, List.set_cons_succ, add_int, sub_int, mul_int, div_int, mod_int, lt_int, le_int, gt_int, ge_int, eq_int, ne_int, bl_bl, isD_enc, fTup, Nat.reduceLeDiff, reduceIte, decide_true, decide_false, Bool.not_true, Bool.not_false, Bool.false_eq_true, e]
  rw [e1, thenS_ok, if_pos rfl, e2]
theorem w_steps (x : Int) (n : Nat) : ∀ (w : Nat) (f : Int) (S : Store), w < n → ∃ z, wLoop (mBl (mOp geD (mVar 2) (mC (.int 2)))) stB n [some (.int x), some (.int f), some (.int w)] S = .nx [some (.int x), some (.int (f + lg w)), z] S := by
  induction n with
  | zero => intro w f S h; omega
  | succ n ih =>
    intro w f S h
    by_cases hw : w < 2
    · rw [lg_lt hw, w_steps1 x n w f S hw]
      exact ⟨some (.int w), by simp⟩
    · rw [lg_ge (by omega), w_steps2 x n w f S hw]
      obtain ⟨z, ih⟩ := ih (3 * w / 4) (f + 1) S (by omega)
      refine ⟨z, ?_⟩
      have e2 : (w : Int) * 3 / 4 = ((3 * w / 4 : Nat) : Int) := by omega
      have e3 : f + ((1 + lg (3 * w / 4) : Nat) : Int) = f + 1 + (lg (3 * w / 4) : Nat) := by omega
      rw [e3, e2, ih]
theorem c_steps {n : Nat} (h : 1 ≤ n) (k : Nat) (hk : k ≤ 100000) (S : Store) : callP (Fs n 26) [.int k] S = .ok (.int (1 + lg (k + 1) : Nat)) S := by
  obtain ⟨m, rfl, h'⟩ := Fs_s (c := 0) h
  refine callP_of (G := []) ?_ rfl rfl S
  obtain ⟨z, e⟩ := w_steps k 20000000 (k + 1) 1 [] (by omega)
  have e2 : (k : Int) + 1 = ((k + 1 : Nat) : Int) := by omega
  unfold stB at e
  simp (disch := omega) only [Fs_i, bod, runF, List.length_cons, List.length_nil, Nat.zero_add, Nat.reduceAdd, if_true, if_false, List.map_cons, List.map_nil, Nat.reduceSub, List.replicate, List.cons_append, List.nil_append, sSeq, sIf, sRet, sSet, sAsg, sExp, sNil, mVar, mC, mOp, mFn, mUn, mNil, mCons, mTru, mBl, mNotT, mAndT, mOrT, mAnd, mOr, mNot, mChain, mCallP_eq, mCall, then_ok, thenS_ok, thenS_nx, thenS_ret, res_ret, res_nx, of_some, gT, gN, gsCons, gsNil, List.getElem?_cons_zero, List.getElem?_cons_succ, List.set_cons_zero, List.set_cons_succ, add_int, sub_int, mul_int, div_int, mod_int, lt_int, le_int, gt_int, ge_int, eq_int, ne_int, bl_bl, isD_enc, fTup, Nat.reduceLeDiff, reduceIte, decide_true, decide_false, Bool.not_true, Bool.not_false, Bool.false_eq_true, m_steps_of, e2, e]
  rw [show (1 : Int) + (lg (k + 1) : Nat) = ((1 + lg (k + 1) : Nat) : Int) by omega]
theorem c_deep : ∀ (t : T) (n : Nat) (S : Store), t.ht + 1 ≤ n → callP (Fs n 34) [enc t] S = .ok (.int t.ht) S
  | .nil, n, S, h => by
    obtain ⟨m, rfl, h'⟩ := Fs_s (c := 0) (Nat.le_trans (by omega) h)
    exact callP_of (G := []) rfl rfl rfl S
  | .node l x r, n, S, h => by
    obtain ⟨m, rfl, h'⟩ := Fs_s (c := (T.node l x r).ht) h
    refine callP_of (G := []) ?_ (by simp [D.pures, enc_pure, D.pure]) rfl S
    simp only [T.ht] at h'
    have q0 : ∀ (a b c d : D) (S : Store), ixD (.tup [a, b, c, d]) (.int 0) S = some (a, S) := fun _ _ _ _ _ => rfl
    have q2 : ∀ (a b c d : D) (S : Store), ixD (.tup [a, b, c, d]) (.int 2) S = some (c, S) := fun _ _ _ _ _ => rfl
    simp (disch := omega) only [Fs_i, bod, runF, List.length_cons, List.length_nil, Nat.zero_add, Nat.reduceAdd, if_true, if_false, List.map_cons, List.map_nil, Nat.reduceSub, List.replicate, List.cons_append, List.nil_append, sSeq, sIf, sRet, sSet, sAsg, sExp, sNil, mVar, mC, mOp, mFn, mUn, mNil, mCons, mTru, mBl, mNotT, mAndT, mOrT, mAnd, mOr, mNot, mChain, mCallP_eq, mCall, then_ok, thenS_ok, thenS_nx, thenS_ret, res_ret, res_nx, of_some, gT, gN, gsCons, gsNil, List.getElem?_cons_zero, List.getElem?_cons_succ, List.set_cons_zero, List.set_cons_succ, add_int, sub_int, mul_int, div_int, mod_int, lt_int, le_int, gt_int, ge_int, eq_int, ne_int, bl_bl, isD_enc, fTup, Nat.reduceLeDiff, reduceIte, decide_true, decide_false, Bool.not_true, Bool.not_false, Bool.false_eq_true, m__law_deep, reduceCtorEq]
    rw [enc_node]
    simp (disch := omega) only [Fs_i, bod, runF, List.length_cons, List.length_nil, Nat.zero_add, Nat.reduceAdd, if_true, if_false, List.map_cons, List.map_nil, Nat.reduceSub, List.replicate, List.cons_append, List.nil_append, sSeq, sIf, sRet, sSet, sAsg, sExp, sNil, mVar, mC, mOp, mFn, mUn, mNil, mCons, mTru, mBl, mNotT, mAndT, mOrT, mAnd, mOr, mNot, mChain, mCallP_eq, mCall, then_ok, thenS_ok, thenS_nx, thenS_ret, res_ret, res_nx, of_some, gT, gN, gsCons, gsNil, List.getElem?_cons_zero, List.getElem?_cons_succ, List.set_cons_zero, List.set_cons_succ, add_int, sub_int, mul_int, div_int, mod_int, lt_int, le_int, gt_int, ge_int, eq_int, ne_int, bl_bl, isD_enc, fTup, Nat.reduceLeDiff, reduceIte, decide_true, decide_false, Bool.not_true, Bool.not_false, Bool.false_eq_true, q0, q2, c_deep l m [] (by omega), c_deep r m [] (by omega), max_int]
    have e : (1 : Int) + (if (r.ht : Int) > l.ht then (r.ht : Int) else l.ht) = ((T.node l x r).ht : Int) := by
      simp only [T.ht]; split <;> omega
    rw [e]
theorem c_lover {n : Nat} (h : 2 ≤ n) (l r : T) (x : Int) (S : Store) : callP (Fs n 31) [enc l, .int x, enc r] S = .ok (enc (.node l x r)) S := by
  obtain ⟨m, rfl, h'⟩ := Fs_s (c := 1) h
  refine callP_of (G := []) ?_ (by simp [D.pures, enc_pure, D.pure]) (enc_pure _) S
  simp (disch := omega) only [Fs_i, bod, runF, List.length_cons, List.length_nil, Nat.zero_add, Nat.reduceAdd, if_true, if_false, List.map_cons, List.map_nil, Nat.reduceSub, List.replicate, List.cons_append, List.nil_append, sSeq, sIf, sRet, sSet, sAsg, sExp, sNil, mVar, mC, mOp, mFn, mUn, mNil, mCons, mTru, mBl, mNotT, mAndT, mOrT, mAnd, mOr, mNot, mChain, mCallP_eq, mCall, then_ok, thenS_ok, thenS_nx, thenS_ret, res_ret, res_nx, of_some, gT, gN, gsCons, gsNil, List.getElem?_cons_zero, List.getElem?_cons_succ, List.set_cons_zero, List.set_cons_succ, add_int, sub_int, mul_int, div_int, mod_int, lt_int, le_int, gt_int, ge_int, eq_int, ne_int, bl_bl, isD_enc, fTup, Nat.reduceLeDiff, reduceIte, decide_true, decide_false, Bool.not_true, Bool.not_false, Bool.false_eq_true, m__law_over, c_lcount]
  simp only [enc, Int.natCast_add, Int.natCast_one]
end K68

set_option Elab.async false
set_option linter.all false
set_option maxRecDepth 100000
set_option maxHeartbeats 4000000
namespace K68
open PySem PySem.Spec PyProof.Rows L2 L3
/-! ### stores -/
def Kp (l : Nat) (S S' : Store) : Prop := ∀ (j : Nat) (o : O), j ≠ l → S[j]? = some o → S'[j]? = some o
theorem Kp.refl {l : Nat} {S : Store} : Kp l S S := fun _ _ _ h => h
theorem Kp.trans {l : Nat} {S S' S'' : Store} (h : Kp l S S') (g : Kp l S' S'') : Kp l S S'' := fun j o n e => g j o n (h j o n e)
theorem app_at {S G : Store} {l : Nat} {o : O} (h : S[l]? = some o) : (S ++ G)[l]? = some o := by
  rw [List.getElem?_append_left (List.getElem?_eq_some_iff.mp h).1]; exact h
theorem app_new (S : Store) (o : O) : (S ++ [o])[S.length]? = some o := by simp
theorem Kp.app {l : Nat} {S G : Store} : Kp l S (S ++ G) := fun _ _ _ h => app_at h
theorem Kp.set {l : Nat} {S : Store} {o : O} : Kp l S (S.set l o) := fun j p n h => by rw [List.getElem?_set_ne (Ne.symm n)]; exact h
theorem at_lt {S : Store} {l : Nat} {o : O} (h : S[l]? = some o) : l < S.length := (List.getElem?_eq_some_iff.mp h).1
theorem set_at {S : Store} {l : Nat} {o p : O} (h : S[l]? = some p) : (S.set l o)[l]? = some o := List.getElem?_set_self (at_lt h)
theorem ixr {S : Store} {l : Nat} {xs : List D} {i : Int} {x : D} (h : S[l]? = some (.lst xs)) (e : atI xs i = some x) : ixD (.ref l) (.int i) S = some (x, S) := by
  simp only [ixD, h, e, Option.map_some]
theorem setr {S : Store} {l : Nat} {xs : List D} {i : Int} {j : Nat} {v : D} (h : S[l]? = some (.lst xs)) (e : ixN xs.length i = some j) : setD (.ref l) (.int i) v S = some (S.set l (.lst (xs.set j v))) := by
  simp only [setD, h, e, Option.map_some]
theorem atI_nat {α : Type} {xs : List α} {i : Nat} {x : α} (h : xs[i]? = some x) : atI xs (i : Int) = some x := by
  have hl := (List.getElem?_eq_some_iff.mp h).1
  unfold atI ixN
  rw [if_pos (by omega), if_pos (by omega)]
  show xs[(i : Int).toNat]? = _
  rw [Int.toNat_natCast]; exact h
/-! ### equality with the empty list -/
theorem py_int (S : Store) (n : Nat) (i : Int) : py S (n + 1) (.int i) = some (.int i) := by rw [py]
theorem pys_ints (S : Store) : ∀ (xs : List Int) (n : Nat), xs.length + 1 < n → pys S n (xs.map .int) = some (xs.map .int)
  | [], n + 1, _ => by rw [List.map_nil, pys]; rfl
  | x :: xs, n + 2, h => by
    rw [List.map_cons, pys, py_int, pys_ints S xs (n + 1) (by simp only [List.length_cons] at h; omega)]
    rfl
  | x :: xs, 0, h => by omega
  | x :: xs, 1, h => by simp only [List.length_cons] at h; omega
theorem lay_ints : ∀ xs : List Int, PyData.canLayAll0 (xs.map .int) = true
  | [] => rfl
  | x :: xs => by
    rw [List.map_cons, PyData.canLayAll0, lay_ints xs, PyData.canLay0]; rfl
theorem dep_ints : ∀ xs : List Int, PyData.depthAll (xs.map .int) = 0
  | [] => by rw [List.map_nil, PyData.depthAll]
  | x :: xs => by
    rw [List.map_cons, PyData.depthAll, dep_ints xs, PyData.depth]; rfl
theorem shaped_ints (xs : List Int) : SeqAt.shaped (.list (xs.map .int)) = true := by
  unfold SeqAt.shaped
  rw [PyData.canLay0, lay_ints, PyData.depth, dep_ints]; rfl
theorem eqv_nil (xs : List Int) : PyData.eqv (.list (xs.map .int)) (.list []) = decide (xs = []) := by
  cases xs with
  | nil => rw [List.map_nil, PyData.eqv, PyData.eqvAll]; rfl
  | cons x xs => rw [List.map_cons, PyData.eqv, PyData.eqvAll]; simp
theorem py_lst {S : Store} {l n : Nat} {xs : List Int} (h : S[l]? = some (.lst (xs.map .int))) (hl : xs.length + 1 < n) : py S (n + 1) (.ref l) = some (.list (xs.map .int)) := by
  rw [py, h]
  simp only
  rw [pys_ints S xs n hl]; rfl
theorem eqB_nil {S : Store} {l b : Nat} {xs : List Int} (h1 : S[l]? = some (.lst (xs.map .int))) (h2 : S[b]? = some (.lst [])) (hl : xs.length < 1990) : eqB (.ref l) (.ref b) S = some (decide (xs = [])) := by
  unfold eqB
  have h3 := py_lst (n := 1999) h1 (by omega)
  have h4 := py_lst (n := 1999) (xs := []) h2 (by simp)
  simp only [h3, h4, shaped_ints]
  have h5 := eqv_nil xs
  have h6 := shaped_ints []
  simp only [List.map_nil] at h6 ⊢
  rw [h5]; rfl
theorem eqB_scr {S : Store} {b : Nat} {ns : List Int} (h2 : S[b]? = some (.lst [])) : eqB (.scr ns) (.ref b) S = some (decide (ns = [])) := by
  unfold eqB
  have h3 : py S 2000 (.scr ns) = some (.list (ns.map .int)) := by rw [py]
  have h4 := py_lst (n := 1999) (xs := []) h2 (by simp)
  simp only [h3, h4, shaped_ints]
  have h5 := eqv_nil ns
  have h6 := shaped_ints []
  simp only [List.map_nil] at h6 ⊢
  rw [h5]; rfl
/-! ### draws -/
def St4 (ns : List Int) (l : Nat) (S : Store) : Prop := ∃ a b c : Int, S[l]? = some (.lst [.scr ns, .int a, .int b, .int c]) ∧ 0 ≤ c ∧ c < 2305843009213693951
theorem sSub_ok {o i v : ME} {E : En} {S S1 S2 S3 S4 : Store} {x y z : D} (h1 : v E S = .ok x S1) (h2 : o E S1 = .ok y S2) (h3 : i E S2 = .ok z S3) (h4 : setD y z x S3 = some S4) : sSub o i v E S = .nx E S4 := by
  unfold sSub; rw [h1, thenS_ok, h2, thenS_ok, h3, thenS_ok, h4]
theorem sSeq_nx {a b : MS} {E E' : En} {S S' : Store} (h : a E S = .nx E' S') : sSeq a b E S = b E' S' := by
  unfold sSeq; rw [h]; rfl
theorem sSeq_ret {a b : MS} {E : En} {S S' : Store} {d : D} (h : a E S = .ret d S') : sSeq a b E S = .ret d S' := by
  unfold sSeq; rw [h]; rfl
theorem sIf_ok {t : MT} {a b : MS} {E : En} {S S' : Store} {c : Bool} (h : t E S = .ok c S') : sIf t a b E S = if c then a E S' else b E S' := by
  unfold sIf; rw [h]; rfl
theorem sRet_ok {a : ME} {E : En} {S S' : Store} {d : D} (h : a E S = .ok d S') : sRet a E S = .ret d S' := by
  unfold sRet; rw [h]; rfl
theorem mBl_ok {a : ME} {E : En} {S S' : Store} {b : Bool} (h : a E S = .ok (.bl b) S') : mBl a E S = .ok b S' := by
  unfold mBl; rw [h]; rfl
theorem mAndT_t {t u : MT} {E : En} {S S' : Store} (h : t E S = .ok true S') : mAndT t u E S = u E S' := by
  unfold mAndT; rw [h]; rfl
theorem mAndT_f {t u : MT} {E : En} {S S' : Store} (h : t E S = .ok false S') : mAndT t u E S = .ok false S' := by
  unfold mAndT; rw [h]; rfl
theorem mFn_ok {f : FL} {a : MA} {E : En} {S S1 S2 : Store} {xs : List D} {d : D} (h : a E S = .ok xs S1) (e : f xs S1 = some (d, S2)) : mFn f a E S = .ok d S2 := by
  unfold mFn; rw [h, then_ok, e]; rfl
theorem mCons_ok {a : ME} {r : MA} {E : En} {S S1 S2 : Store} {x : D} {xs : List D} (h : a E S = .ok x S1) (e : r E S1 = .ok xs S2) : mCons a r E S = .ok (x :: xs) S2 := by
  unfold mCons; rw [h, then_ok, e]; rfl
theorem mCall_ok {F : FN} {a : MA} {E : En} {S S1 : Store} {xs : List D} {r : Res D} (h : a E S = .ok xs S1) (e : F xs S1 = r) : mCall F a E S = r := by
  unfold mCall; rw [h, then_ok, e]
theorem mCallP_ok {F : FN} {a : MA} {E : En} {S S1 : Store} {xs : List D} {r : Res D} (h : a E S = .ok xs S1) (e : callP F xs S1 = r) : mCallP F a E S = r := by
  rw [mCallP_eq, h, then_ok, e]
theorem runF_ok {np ns : Nat} {b : MS} {ds : List D} {S : Store} {r : SR} (h : ds.length = np) (e : b (ds.map some ++ List.replicate (ns - np) none) S = r) : runF np ns b ds S = r.res := by
  unfold runF; rw [if_pos h, e]
theorem ixs_ok {ns : List Int} {a : Int} {S : Store} (h : ns ≠ []) : ∃ z, ixD (.scr ns) (.int (a % (ns.length : Int))) S = some (.int z, S) := by
  have hl : 0 < ns.length := List.length_pos_iff.mpr h
  have h1 := Int.emod_nonneg a (b := (ns.length : Int)) (by omega)
  have h2 := Int.emod_lt_of_pos a (b := (ns.length : Int)) (by omega)
  obtain ⟨k, hk⟩ := Int.eq_ofNat_of_zero_le h1
  have h3 : k < ns.length := by omega
  refine ⟨ns[k], ?_⟩
  rw [hk]
  have := atI_nat (xs := ns) (i := k) (List.getElem?_eq_getElem h3)
  simp only [ixD, this, Option.map_some]
theorem take_ok {n : Nat} (h : 1 ≤ n) {ns : List Int} {l : Nat} {S : Store} (k : Int) (hk : 0 < k ∧ k < 1073741824) (hS : St4 ns l S) :
    ∃ (r : Int) (S' : Store), Fs n 29 [.ref l, .int k] S = .ok (.int r) S' ∧ (0 ≤ r ∧ r < k) ∧ Kp l S S' ∧ St4 ns l S' := by
  obtain ⟨m, rfl, h'⟩ := Fs_s (c := 0) h
  obtain ⟨a, b, c, hS, hc⟩ := hS
  have i0 := fun {S : Store} {a b c : Int} (h : S[l]? = some (.lst [.scr ns, .int a, .int b, .int c])) => ixr (i := 0) h rfl
  have i1 := fun {S : Store} {a b c : Int} (h : S[l]? = some (.lst [.scr ns, .int a, .int b, .int c])) => ixr (i := 1) h rfl
  have i2 := fun {S : Store} {a b c : Int} (h : S[l]? = some (.lst [.scr ns, .int a, .int b, .int c])) => ixr (i := 2) h rfl
  have i3 := fun {S : Store} {a b c : Int} (h : S[l]? = some (.lst [.scr ns, .int a, .int b, .int c])) => ixr (i := 3) h rfl
  have s1 := fun {S : Store} {a b c : Int} (v : D) (h : S[l]? = some (.lst [.scr ns, .int a, .int b, .int c])) => setr (i := 1) (v := v) h rfl
  have s2 := fun {S : Store} {a b c : Int} (v : D) (h : S[l]? = some (.lst [.scr ns, .int a, .int b, .int c])) => setr (i := 2) (v := v) h rfl
  have s3 := fun {S : Store} {a b c : Int} (v : D) (h : S[l]? = some (.lst [.scr ns, .int a, .int b, .int c])) => setr (i := 3) (v := v) h rfl
  have md := fun (x : Int) => (⟨Int.emod_nonneg x (by omega), Int.emod_lt_of_pos x hk.1⟩ : 0 ≤ x % k ∧ x % k < k)
  have t1 : mBl (mOp gtD (mOp ixD (mVar 0) (mC (.int 2))) (mC (.int 0))) [some (.ref l), some (.int k), none, none] S = .ok (decide (0 < b)) S :=
    mBl_ok (mOp_ok (mOp_ok rfl rfl (i2 hS)) rfl rfl)
  rw [Fs_i]
  simp only [bod]
  by_cases hb : 0 < b
  · refine ⟨b % k, S.set l (.lst [.scr ns, .int a, .int (b / k), .int c]), ?_, md b, Kp.set, a, b / k, c, set_at hS, hc⟩
    refine runF_ok (r := .ret (.int (b % k)) _) rfl ?_
    refine sSeq_ret ?_
    rw [show List.map some [D.ref l, D.int k] ++ List.replicate (4 - 2) none = [some (.ref l), some (.int k), none, none] from rfl, sIf_ok t1, if_pos (decide_eq_true hb)]
    rw [sSeq_nx (sSet_ok (mOp_ok (mOp_ok rfl rfl (i2 hS)) rfl (mod_int b k S hk.1)))]
    rw [sSeq_nx (sSub_ok (mOp_ok (mOp_ok rfl rfl (i2 hS)) rfl (div_int b k S hk)) rfl rfl (s2 _ hS))]
    exact sRet_ok rfl
  · -- the cell
    have hS1 : (S ++ [O.lst []])[l]? = some (.lst [.scr ns, .int a, .int b, .int c]) := app_at hS
    have t2 : mBl (mOp neD (mOp ixD (mVar 0) (mC (.int 0))) (mFn fLst mNil)) [some (.ref l), some (.int k), some (.int a), none] S = .ok (!decide (ns = [])) (S ++ [O.lst []]) := by
      refine mBl_ok (mOp_ok (mOp_ok rfl rfl (i0 hS)) (mFn_ok rfl (show fLst [] S = some (.ref S.length, S ++ [O.lst []]) from rfl)) ?_)
      simp only [neD, eqB_scr (app_new S (.lst [])), Option.map_some]
    have hcell : ∃ z : Int, sIf (mBl (mOp neD (mOp ixD (mVar 0) (mC (.int 0))) (mFn fLst mNil)))
        (sSet 2 (mOp ixD (mOp ixD (mVar 0) (mC (.int 0))) (mOp modD (mOp ixD (mVar 0) (mC (.int 1))) (mFn lenD (mCons (mOp ixD (mVar 0) (mC (.int 0))) mNil)))))
        sNil [some (.ref l), some (.int k), some (.int a), none] S = .nx [some (.ref l), some (.int k), some (.int z), none] (S ++ [O.lst []]) := by
      rw [sIf_ok t2]
      by_cases hn : ns = []
      · rw [decide_eq_true hn]
        exact ⟨a, rfl⟩
      · obtain ⟨z, hz⟩ := ixs_ok (a := a) (S := S ++ [O.lst []]) hn
        refine ⟨z, ?_⟩
        rw [decide_eq_false hn]
        refine sSet_ok (mOp_ok (mOp_ok rfl rfl (i0 hS1)) (mOp_ok (mOp_ok rfl rfl (i1 hS1)) (mFn_ok (mCons_ok (mOp_ok rfl rfl (i0 hS1)) rfl) (show lenD [.scr ns] _ = some (.int ns.length, _) from rfl)) (mod_int a ns.length _ ?_)) hz)
        have := List.length_pos_iff.mpr hn
        omega
    obtain ⟨z, hz⟩ := hcell
    generalize hT : S ++ [O.lst []] = S1 at *
    have k1 : Kp l S S1 := hT ▸ Kp.app
    have hS2 : (S1.set l (.lst [.scr ns, .int (a + 1), .int b, .int c]))[l]? = some (.lst [.scr ns, .int (a + 1), .int b, .int c]) := set_at hS1
    have k2 : Kp l S (S1.set l (.lst [.scr ns, .int (a + 1), .int b, .int c])) := k1.trans Kp.set
    have g1 : sSub (mVar 0) (mC (.int 1)) (mOp addD (mOp ixD (mVar 0) (mC (.int 1))) (mC (.int 1))) [some (.ref l), some (.int k), some (.int z), none] S1 = .nx [some (.ref l), some (.int k), some (.int z), none] (S1.set l (.lst [.scr ns, .int (a + 1), .int b, .int c])) :=
      sSub_ok (mOp_ok (mOp_ok rfl rfl (i1 hS1)) rfl rfl) rfl rfl (s1 _ hS1)
    generalize S1.set l (.lst [.scr ns, .int (a + 1), .int b, .int c]) = S2 at *
    have pw : ∀ S : Store, powD (.int 10) (.int 18) S = some (.int 1000000000000000000, S) := fun _ => rfl
    have t3 : mAndT (mBl (mOp geD (mVar 2) (mOp powD (mC (.int 10)) (mC (.int 18))))) (mBl (mOp leD (mOp ixD (mVar 0) (mC (.int 1))) (mFn lenD (mCons (mOp ixD (mVar 0) (mC (.int 0))) mNil)))) [some (.ref l), some (.int k), some (.int z), none] S2 = .ok (decide (1000000000000000000 ≤ z) && decide (a + 1 ≤ (ns.length : Int))) S2 := by
      have u1 : mBl (mOp geD (mVar 2) (mOp powD (mC (.int 10)) (mC (.int 18)))) [some (.ref l), some (.int k), some (.int z), none] S2 = .ok (decide (1000000000000000000 ≤ z)) S2 := mBl_ok (mOp_ok rfl (mOp_ok rfl rfl (pw S2)) rfl)
      cases hd : decide (1000000000000000000 ≤ z) with
      | true =>
        rw [hd] at u1
        rw [mAndT_t u1, Bool.true_and]
        exact mBl_ok (mOp_ok (mOp_ok rfl rfl (i1 hS2)) (mFn_ok (mCons_ok (mOp_ok rfl rfl (i0 hS2)) rfl) (show lenD [.scr ns] _ = some (.int ns.length, _) from rfl)) rfl)
      | false =>
        rw [hd] at u1
        rw [mAndT_f u1, Bool.false_and]
    have start : ∀ {r : Int} {S' : Store} {rest : MS}, True → True := fun _ => trivial
    cases hd : (decide (1000000000000000000 ≤ z) && decide (a + 1 ≤ (ns.length : Int))) with
    | true =>
      refine ⟨z % k, S2.set l (.lst [.scr ns, .int (a + 1), .int (z / k), .int c]), ?_, md z, k2.trans Kp.set, a + 1, z / k, c, set_at hS2, hc⟩
      refine runF_ok (r := .ret (.int (z % k)) _) rfl ?_
      rw [show List.map some [D.ref l, D.int k] ++ List.replicate (4 - 2) none = [some (.ref l), some (.int k), none, none] from rfl]
      unfold m__law_take
      rw [sSeq_nx (by rw [sIf_ok t1, if_neg (by rw [decide_eq_false hb]; decide)]; rfl)]
      rw [sSeq_nx (sSet_ok (mOp_ok rfl rfl (i1 hS)))]
      rw [show List.set [some (D.ref l), some (D.int k), none, none] 2 (some (D.int a)) = [some (.ref l), some (.int k), some (.int a), none] from rfl]
      rw [sSeq_nx hz, sSeq_nx g1]
      refine sSeq_ret ?_
      rw [sIf_ok t3, hd, if_pos rfl]
      rw [sSeq_nx (sSub_ok (mOp_ok rfl rfl (div_int z k S2 hk)) rfl rfl (s2 _ hS2))]
      exact sRet_ok (mOp_ok rfl rfl (mod_int z k _ hk.1))
    | false =>
      have c1 := Int.emod_nonneg z (b := 2305843009213693951) (by decide)
      have c2 := Int.emod_lt_of_pos z (b := 2305843009213693951) (by decide)
      generalize hy : z % 2305843009213693951 = y at *
      have d1 := Int.emod_nonneg (c * 48271 + y * 69621 + (a + 1)) (b := 2305843009213693951) (by decide)
      have d2 := Int.emod_lt_of_pos (c * 48271 + y * 69621 + (a + 1)) (b := 2305843009213693951) (by decide)
      generalize hw : (c * 48271 + y * 69621 + (a + 1)) % 2305843009213693951 = w at *
      have hS3 : (S2.set l (.lst [.scr ns, .int (a + 1), .int b, .int w]))[l]? = some (.lst [.scr ns, .int (a + 1), .int b, .int w]) := set_at hS2
      refine ⟨w * w % 2147483629 / 8 % k, S2.set l (.lst [.scr ns, .int (a + 1), .int b, .int w]), ?_, md _, k2.trans Kp.set, a + 1, b, w, hS3, d1, d2⟩
      refine runF_ok (r := .ret (.int (w * w % 2147483629 / 8 % k)) _) rfl ?_
      rw [show List.map some [D.ref l, D.int k] ++ List.replicate (4 - 2) none = [some (.ref l), some (.int k), none, none] from rfl]
      unfold m__law_take
      rw [sSeq_nx (by rw [sIf_ok t1, if_neg (by rw [decide_eq_false hb]; decide)]; rfl)]
      rw [sSeq_nx (sSet_ok (mOp_ok rfl rfl (i1 hS)))]
      rw [show List.set [some (D.ref l), some (D.int k), none, none] 2 (some (D.int a)) = [some (.ref l), some (.int k), some (.int a), none] from rfl]
      rw [sSeq_nx hz, sSeq_nx g1]
      rw [sSeq_nx (by rw [sIf_ok t3, hd, if_neg (by decide)]; rfl)]
      rw [sSeq_nx (sSet_ok (mOp_ok rfl rfl (mod_int z 2305843009213693951 S2 (by decide))))]
      rw [hy, show List.set [some (D.ref l), some (D.int k), some (D.int z), none] 2 (some (D.int y)) = [some (.ref l), some (.int k), some (.int y), none] from rfl]
      rw [sSeq_nx (sSub_ok (mOp_ok (mOp_ok (mOp_ok (mOp_ok (mOp_ok rfl rfl (i3 hS2)) rfl (mul_int c 48271 S2 (.inr (by decide)))) (mOp_ok rfl rfl (mul_int y 69621 S2 (.inr (by decide)))) (add_int _ _ S2)) (mOp_ok rfl rfl (i1 hS2)) (add_int _ _ S2)) rfl (mod_int _ 2305843009213693951 S2 (by decide))) rfl rfl (s3 _ hS2))]
      rw [hw]
      exact sRet_ok (mOp_ok (mOp_ok (mOp_ok (mOp_ok (mOp_ok rfl rfl (i3 hS3)) (mOp_ok rfl rfl (i3 hS3)) (mul_int w w _ (.inl (by omega)))) rfl (mod_int _ 2147483629 _ (by decide))) rfl (div_int _ 8 _ (by decide))) rfl (mod_int _ k _ hk.1))
end K68

set_option Elab.async false
set_option linter.all false
set_option maxRecDepth 100000
set_option maxHeartbeats 4000000
namespace K68
open PySem PySem.Spec PyProof.Rows L2 L3
/-! ### slices -/
theorem cut_lo {xs : List Int} {m : Nat} (h : m ≤ xs.length) : L3.cutD (xs.map .int) none (some (m : Int)) = (xs.take m).map .int := by
  unfold L3.cutD
  rw [HT.sIx_none, HT.sIx_nat, List.length_map, Nat.min_eq_left h, List.drop_zero, Nat.sub_zero, List.map_take]
theorem cut_hi {xs : List Int} {m : Nat} (h : m ≤ xs.length) : L3.cutD (xs.map .int) (some (m : Int)) none = (xs.drop m).map .int := by
  unfold L3.cutD
  rw [HT.sIx_none, HT.sIx_nat, List.length_map, Nat.min_eq_left h, List.map_drop]
  rw [List.take_of_length_le (by simp)]
theorem slr {S : Store} {l : Nat} {xs : List D} {lo hi : Option Int} (h : S[l]? = some (.lst xs)) : slD (.ref l) lo hi S = some (.ref S.length, S ++ [.lst (L3.cutD xs lo hi)]) := by
  simp only [slD, h]
theorem lenr {S : Store} {l : Nat} {xs : List D} (h : S[l]? = some (.lst xs)) : lenD [.ref l] S = some (.int xs.length, S) := by
  simp only [lenD, h]
theorem mSl_ok {a : ME} {lo hi : MO} {E : En} {S S1 S2 S3 S4 : Store} {x z : D} {p q : Option Int} (h1 : a E S = .ok x S1) (h2 : lo E S1 = .ok p S2) (h3 : hi E S2 = .ok q S3) (h4 : slD x p q S3 = some (z, S4)) : mSl a lo hi E S = .ok z S4 := by
  unfold mSl; rw [h1, then_ok, h2, then_ok, h3, then_ok, h4]; rfl
theorem mOS_ok {a : ME} {E : En} {S S1 : Store} {i : Int} (h : a E S = .ok (.int i) S1) : mOS a E S = .ok (some i) S1 := by
  unfold mOS; rw [h]; rfl
theorem eqB_ok {l b : Nat} {S : Store} {v : Bool} (h : eqB (.ref l) (.ref b) S = some v) : eqD (.ref l) (.ref b) S = some (.bl v, S) := by
  simp only [eqD, h, Option.map_some]
/-! ### ties by halves -/
theorem half_ok {P : Int → Prop} : ∀ (k n : Nat) (xs : List Int) (l : Nat) (S : Store), xs.length ≤ k → lg (xs.length + 1) + 4 ≤ n → xs.length ≤ 1000 → (∀ x ∈ xs, P x) → S[l]? = some (.lst (xs.map .int)) →
    ∃ t G, Fs n 4 [.ref l] S = .ok (enc t) (S ++ G) ∧ t.even = true ∧ t.sz = xs.length ∧ t.all P
  | k, n, xs, l, S, hk, hn, hx, hP, hS => by
    obtain ⟨m, rfl, h'⟩ := Fs_s (c := lg (xs.length + 1) + 3) hn
    rw [Fs_i]
    simp only [bod]
    have hS1 : (S ++ [O.lst []])[l]? = some (.lst (xs.map .int)) := app_at hS
    have t1 : mBl (mOp eqD (mVar 0) (mFn fLst mNil)) [some (.ref l), none] S = .ok (decide (xs = [])) (S ++ [O.lst []]) :=
      mBl_ok (mOp_ok rfl (mFn_ok rfl (show fLst [] S = some (.ref S.length, S ++ [O.lst []]) from rfl)) (eqB_ok (eqB_nil hS1 (app_new S _) (by omega))))
    by_cases hn0 : xs = []
    · refine ⟨.nil, [O.lst []], ?_, rfl, by rw [hn0]; rfl, trivial⟩
      refine runF_ok (r := .ret .non _) rfl (sSeq_ret ?_)
      rw [show List.map some [D.ref l] ++ List.replicate (2 - 1) none = [some (.ref l), none] from rfl, sIf_ok t1, if_pos (decide_eq_true hn0)]
      exact sRet_ok rfl
    · have hpos := List.length_pos_iff.mpr hn0
      generalize hT : S ++ [O.lst []] = S1 at *
      have w1 := lg_kid (a := xs.length / 2 + 1) (b := xs.length - xs.length / 2) (w := xs.length + 1) (by omega) (by omega) (by omega)
      have w2 := lg_kid (a := xs.length - xs.length / 2) (b := xs.length / 2 + 1) (w := xs.length + 1) (by omega) (by omega) (by omega)
      have hmid : xs.length / 2 < xs.length := by omega
      -- the left one
      have hL : (S1 ++ [O.lst ((xs.take (xs.length / 2)).map .int)])[S1.length]? = some (.lst ((xs.take (xs.length / 2)).map .int)) := app_new _ _
      have lenL : (xs.take (xs.length / 2)).length = xs.length / 2 := by rw [List.length_take]; omega
      obtain ⟨tl, Gl, eL, vL, sL, aL⟩ := half_ok (P := P) (k - 1) m (xs.take (xs.length / 2)) S1.length _ (by omega) (by rw [lenL]; omega) (by omega) (fun x h => hP x (List.mem_of_mem_take h)) hL
      have hS2 : (S1 ++ [O.lst ((xs.take (xs.length / 2)).map .int)] ++ Gl)[l]? = some (.lst (xs.map .int)) := app_at (app_at hS1)
      have c1 : slD (.ref l) none (some ((xs.length / 2 : Nat) : Int)) S1 = some (.ref S1.length, S1 ++ [O.lst ((xs.take (xs.length / 2)).map .int)]) := by
        rw [slr hS1, cut_lo (by omega)]
      have ge : ∃ G2, S ++ G2 = S1 ++ [O.lst ((xs.take (xs.length / 2)).map .int)] ++ Gl := ⟨[O.lst []] ++ [O.lst ((xs.take (xs.length / 2)).map .int)] ++ Gl, by rw [← hT]; simp⟩
      obtain ⟨G2, ge⟩ := ge
      generalize hT2 : S1 ++ [O.lst ((xs.take (xs.length / 2)).map .int)] = S2 at *
      generalize hT3 : S2 ++ Gl = S3 at *
      have hR : (S3 ++ [O.lst ((xs.drop (xs.length / 2 + 1)).map .int)])[S3.length]? = some (.lst ((xs.drop (xs.length / 2 + 1)).map .int)) := app_new _ _
      have lenR : (xs.drop (xs.length / 2 + 1)).length = xs.length - (xs.length / 2 + 1) := List.length_drop ..
      obtain ⟨tr, Gr, eR, vR, sR, aR⟩ := half_ok (P := P) (k - 1) m (xs.drop (xs.length / 2 + 1)) S3.length _ (by omega) (by rw [lenR]; rw [show xs.length - (xs.length / 2 + 1) + 1 = xs.length - xs.length / 2 by omega]; omega) (by omega) (fun x h => hP x (List.mem_of_mem_drop h)) hR
      have c2 : slD (.ref l) (some (((xs.length / 2 : Nat) : Int) + 1)) none S3 = some (.ref S3.length, S3 ++ [O.lst ((xs.drop (xs.length / 2 + 1)).map .int)]) := by
        rw [slr hS2, show (((xs.length / 2 : Nat) : Int) + 1) = ((xs.length / 2 + 1 : Nat) : Int) by omega, cut_hi (by omega)]
      have c3 : ixD (.ref l) (.int ((xs.length / 2 : Nat) : Int)) S3 = some (.int (xs[xs.length / 2]'hmid), S3) :=
        ixr hS2 (atI_nat (by rw [List.getElem?_map, List.getElem?_eq_getElem hmid]; rfl))
      refine ⟨.node tl (xs[xs.length / 2]'hmid) tr, G2 ++ [O.lst ((xs.drop (xs.length / 2 + 1)).map .int)] ++ Gr, ?_, even_node.mpr ⟨by omega, vL, vR⟩, by simp only [T.sz]; omega, aL, hP _ (List.getElem_mem hmid), aR⟩
      refine runF_ok (r := .ret _ _) rfl ?_
      rw [show List.map some [D.ref l] ++ List.replicate (2 - 1) none = [some (.ref l), none] from rfl]
      unfold m_by_halves
      rw [sSeq_nx (by rw [sIf_ok t1, if_neg (by rw [decide_eq_false hn0]; decide)]; rfl)]
      have c4 : divD (.int ((xs.map D.int).length : Nat)) (.int 2) S1 = some (.int ((xs.length / 2 : Nat) : Int), S1) := by
        rw [div_int _ _ _ (by decide), List.length_map]
        rw [show ((xs.length : Nat) : Int) / 2 = ((xs.length / 2 : Nat) : Int) by omega]
      rw [sSeq_nx (sSet_ok (mOp_ok (mFn_ok (mCons_ok rfl rfl) (lenr hS1)) rfl c4))]
      rw [show S ++ (G2 ++ [O.lst ((xs.drop (xs.length / 2 + 1)).map .int)] ++ Gr) = S3 ++ [O.lst ((xs.drop (xs.length / 2 + 1)).map .int)] ++ Gr by rw [← ge]; simp]
      refine sRet_ok (mCallP_ok (mCons_ok (mCall_ok (mCons_ok (mSl_ok rfl rfl (mOS_ok rfl) c1) rfl) eL) (mCons_ok (mOp_ok rfl rfl c3) (mCons_ok (mCall_ok (mCons_ok (mSl_ok rfl (mOS_ok (mOp_ok rfl rfl (add_int _ _ _))) rfl c2) rfl) eR) rfl))) ?_)
      exact c_over (by omega) _ _ _ _
termination_by k => k
decreasing_by all_goals omega
/-! ### ties made -/
theorem made_ok {P : Int → Prop} {ns : List Int} {st : Nat} : ∀ (k n : Nat) (xs : List Int) (l : Nat) (S : Store), xs.length ≤ k → lg (xs.length + 1) + 4 ≤ n → xs.length ≤ 1000 → (∀ x ∈ xs, P x) → S[l]? = some (.lst (xs.map .int)) → l ≠ st → St4 ns st S →
    ∃ t S', Fs n 32 [.ref st, .ref l] S = .ok (enc t) S' ∧ (t.even = true ∧ t.sz = xs.length ∧ t.all P) ∧ Kp st S S' ∧ St4 ns st S'
  | k, n, xs, l, S, hk, hn, hx, hP, hS, hl, hst => by
    obtain ⟨m, rfl, h'⟩ := Fs_s (c := lg (xs.length + 1) + 3) hn
    rw [Fs_i]
    simp only [bod]
    have hS1 : (S ++ [O.lst []])[l]? = some (.lst (xs.map .int)) := app_at hS
    have st1 : St4 ns st (S ++ [O.lst []]) := let ⟨a, b, c, h, g⟩ := hst; ⟨a, b, c, app_at h, g⟩
    have t1 : mBl (mOp eqD (mVar 1) (mFn fLst mNil)) [some (.ref st), some (.ref l), none, none, none] S = .ok (decide (xs = [])) (S ++ [O.lst []]) :=
      mBl_ok (mOp_ok rfl (mFn_ok rfl (show fLst [] S = some (.ref S.length, S ++ [O.lst []]) from rfl)) (eqB_ok (eqB_nil hS1 (app_new S _) (by omega))))
    have k1 : Kp st S (S ++ [O.lst []]) := Kp.app
    by_cases hn0 : xs = []
    · refine ⟨.nil, _, ?_, ⟨rfl, by rw [hn0]; rfl, trivial⟩, k1, st1⟩
      refine runF_ok (r := .ret .non _) rfl (sSeq_ret ?_)
      rw [show List.map some [D.ref st, D.ref l] ++ List.replicate (5 - 2) none = [some (.ref st), some (.ref l), none, none, none] from rfl, sIf_ok t1, if_pos (decide_eq_true hn0)]
      exact sRet_ok rfl
    · have hpos := List.length_pos_iff.mpr hn0
      generalize hT : S ++ [O.lst []] = S1 at *
      obtain ⟨many, hmany⟩ : ∃ many, xs.length = many + 1 := ⟨xs.length - 1, by omega⟩
      obtain ⟨least, hleast⟩ : ∃ least : Nat, least = (many + 5) / 4 - 1 := ⟨_, rfl⟩
      have g1 : maxD [.int 0, .int (((many : Int) + 5) / 4 - 1)] S1 = some (.int least, S1) := by
        rw [max_int]
        have : (if ((many : Int) + 5) / 4 - 1 > 0 then ((many : Int) + 5) / 4 - 1 else 0) = (least : Int) := by split <;> omega
        rw [this]
      -- the middle
      have hmd : ∃ (mid : Nat) (S2 : Store), sIf (mAndT (mBl (mOp gtD (mOp subD (mVar 2) (mOp mulD (mC (.int 2)) (mVar 3))) (mC (.int 0)))) (mBl (mOp eqD (mCall (Fs m 29) (mCons (mVar 0) (mCons (mC (.int 3)) mNil))) (mC (.int 0)))))
          (sSet 4 (mOp addD (mVar 3) (mCall (Fs m 29) (mCons (mVar 0) (mCons (mOp addD (mOp subD (mVar 2) (mOp mulD (mC (.int 2)) (mVar 3))) (mC (.int 1))) mNil)))))
          sNil [some (.ref st), some (.ref l), some (.int many), some (.int least), some (.int ((many / 2 : Nat) : Int))] S1 = .nx [some (.ref st), some (.ref l), some (.int many), some (.int least), some (.int mid)] S2 ∧ (least ≤ mid ∧ mid + least ≤ many) ∧ Kp st S1 S2 ∧ St4 ns st S2 := by
        have m2 : ∀ S : Store, mulD (.int 2) (.int least) S = some (.int (2 * least), S) := fun S => mul_int 2 least S (.inl (by decide))
        have u1 : mBl (mOp gtD (mOp subD (mVar 2) (mOp mulD (mC (.int 2)) (mVar 3))) (mC (.int 0))) [some (.ref st), some (.ref l), some (.int many), some (.int least), some (.int ((many / 2 : Nat) : Int))] S1 = .ok (decide (0 < (many : Int) - 2 * least)) S1 :=
          mBl_ok (mOp_ok (mOp_ok rfl (mOp_ok rfl rfl (m2 S1)) (sub_int _ _ _)) rfl rfl)
        by_cases h1 : 0 < (many : Int) - 2 * least
        · rw [decide_eq_true h1] at u1
          obtain ⟨r, S2, e2, hr, k2, st2⟩ := take_ok (n := m) (by omega) 3 (by decide) st1
          have u2 : mBl (mOp eqD (mCall (Fs m 29) (mCons (mVar 0) (mCons (mC (.int 3)) mNil))) (mC (.int 0))) [some (.ref st), some (.ref l), some (.int many), some (.int least), some (.int ((many / 2 : Nat) : Int))] S1 = .ok (decide (r = 0)) S2 :=
            mBl_ok (mOp_ok (mCall_ok (mCons_ok rfl (mCons_ok rfl rfl)) e2) rfl (eq_int _ _ _))
          rw [sIf_ok ((mAndT_t u1).trans u2)]
          by_cases h2 : r = 0
          · obtain ⟨r3, S3, e3, hr3, k3, st3⟩ := take_ok (n := m) (by omega) ((many : Int) - 2 * least + 1) (by omega) st2
            obtain ⟨rn, hrn⟩ := Int.eq_ofNat_of_zero_le hr3.1
            refine ⟨least + rn, S3, ?_, by omega, k2.trans k3, st3⟩
            rw [if_pos (decide_eq_true h2)]
            rw [show ((least + rn : Nat) : Int) = (least : Int) + r3 by omega]
            exact sSet_ok (mOp_ok rfl (mCall_ok (mCons_ok rfl (mCons_ok (mOp_ok (mOp_ok rfl (mOp_ok rfl rfl (m2 S2)) (sub_int _ _ _)) rfl (add_int _ _ _)) rfl)) e3) (add_int _ _ _))
          · refine ⟨many / 2, S2, ?_, by omega, k2, st2⟩
            rw [if_neg (by rw [decide_eq_false h2]; decide)]
            rfl
        · rw [decide_eq_false h1] at u1
          refine ⟨many / 2, S1, ?_, by omega, Kp.refl, st1⟩
          rw [sIf_ok (mAndT_f u1)]
          rfl
      obtain ⟨mid, S2, hmd, hmid, k2, st2⟩ := hmd
      have hS2 := k2 l _ hl hS1
      have w1 := lg_kid (a := mid + 1) (b := xs.length - mid) (w := xs.length + 1) (by omega) (by omega) (by omega)
      have w2 := lg_kid (a := xs.length - mid) (b := mid + 1) (w := xs.length + 1) (by omega) (by omega) (by omega)
      have hlt : mid < xs.length := by omega
      have hL : (S2 ++ [O.lst ((xs.take mid).map .int)])[S2.length]? = some (.lst ((xs.take mid).map .int)) := app_new _ _
      have lenL : (xs.take mid).length = mid := by rw [List.length_take]; omega
      have stl : st < S2.length := let ⟨a, b, c, h, g⟩ := st2; at_lt h
      have st3 : St4 ns st (S2 ++ [O.lst ((xs.take mid).map .int)]) := let ⟨a, b, c, h, g⟩ := st2; ⟨a, b, c, app_at h, g⟩
      obtain ⟨tl, S3, eL, ⟨vL, sL, aL⟩, k3, st3⟩ := made_ok (P := P) (k - 1) m (xs.take mid) S2.length _ (by omega) (by rw [lenL]; omega) (by omega) (fun x h => hP x (List.mem_of_mem_take h)) hL (by omega) st3
      have k13 : Kp st S S3 := (k1.trans k2).trans (Kp.app.trans k3)
      have hS3 := k13 l _ hl hS
      have c1 : slD (.ref l) none (some (mid : Int)) S2 = some (.ref S2.length, S2 ++ [O.lst ((xs.take mid).map .int)]) := by
        rw [slr hS2, cut_lo (by omega)]
      have hR : (S3 ++ [O.lst ((xs.drop (mid + 1)).map .int)])[S3.length]? = some (.lst ((xs.drop (mid + 1)).map .int)) := app_new _ _
      have lenR : (xs.drop (mid + 1)).length = xs.length - (mid + 1) := List.length_drop ..
      have stl3 : st < S3.length := let ⟨a, b, c, h, g⟩ := st3; at_lt h
      have st4 : St4 ns st (S3 ++ [O.lst ((xs.drop (mid + 1)).map .int)]) := let ⟨a, b, c, h, g⟩ := st3; ⟨a, b, c, app_at h, g⟩
      obtain ⟨tr, S4, eR, ⟨vR, sR, aR⟩, k4, st5⟩ := made_ok (P := P) (k - 1) m (xs.drop (mid + 1)) S3.length _ (by omega) (by rw [lenR]; rw [show xs.length - (mid + 1) + 1 = xs.length - mid by omega]; omega) (by omega) (fun x h => hP x (List.mem_of_mem_drop h)) hR (by omega) st4
      have c2 : slD (.ref l) (some ((mid : Int) + 1)) none S3 = some (.ref S3.length, S3 ++ [O.lst ((xs.drop (mid + 1)).map .int)]) := by
        rw [slr hS3, show ((mid : Int) + 1) = ((mid + 1 : Nat) : Int) by omega, cut_hi (by omega)]
      have c3 : ixD (.ref l) (.int (mid : Int)) S3 = some (.int (xs[mid]'hlt), S3) :=
        ixr hS3 (atI_nat (by rw [List.getElem?_map, List.getElem?_eq_getElem hlt]; rfl))
      refine ⟨.node tl (xs[mid]'hlt) tr, S4, ?_, ⟨even_node.mpr ⟨by omega, vL, vR⟩, by simp only [T.sz]; omega, aL, hP _ (List.getElem_mem hlt), aR⟩, k13.trans (Kp.app.trans k4), st5⟩
      refine runF_ok (r := .ret _ _) rfl ?_
      rw [show List.map some [D.ref st, D.ref l] ++ List.replicate (5 - 2) none = [some (.ref st), some (.ref l), none, none, none] from rfl]
      unfold m__law_made
      rw [sSeq_nx (by rw [sIf_ok t1, if_neg (by rw [decide_eq_false hn0]; decide)]; rfl)]
      have c4 : subD (.int ((xs.map D.int).length : Nat)) (.int 1) S1 = some (.int many, S1) := by
        rw [sub_int, List.length_map, hmany]
        rw [show ((many + 1 : Nat) : Int) - 1 = many by omega]
      rw [sSeq_nx (sSet_ok (mOp_ok (mFn_ok (mCons_ok rfl rfl) (lenr hS1)) rfl c4))]
      rw [sSeq_nx (sSet_ok (mFn_ok (mCons_ok rfl (mCons_ok (mOp_ok (mOp_ok (mOp_ok rfl rfl (add_int _ _ _)) rfl (div_int _ _ _ (by decide))) rfl (sub_int _ _ _)) rfl)) g1))]
      have c5 : divD (.int many) (.int 2) S1 = some (.int ((many / 2 : Nat) : Int), S1) := by
        rw [div_int _ _ _ (by decide)]
        rw [show (many : Int) / 2 = ((many / 2 : Nat) : Int) by omega]
      rw [sSeq_nx (sSet_ok (mOp_ok rfl rfl c5))]
      simp only [List.set_cons_succ, List.set_cons_zero]
      rw [sSeq_nx hmd]
      refine sRet_ok (mCallP_ok (mCons_ok (mCall_ok (mCons_ok rfl (mCons_ok (mSl_ok rfl rfl (mOS_ok rfl) c1) rfl)) eL) (mCons_ok (mOp_ok rfl rfl c3) (mCons_ok (mCall_ok (mCons_ok rfl (mCons_ok (mSl_ok rfl (mOS_ok (mOp_ok rfl rfl (add_int _ _ _))) rfl c2) rfl)) eR) rfl))) ?_)
      exact c_lover (by omega) _ _ _ _
termination_by k => k
decreasing_by all_goals omega
end K68

set_option Elab.async false
set_option linter.all false
set_option maxRecDepth 100000
set_option maxHeartbeats 4000000
namespace K68
open PySem PySem.Spec PyProof.Rows L2 L3
/-! ### numbers -/
def Qi (x : Int) : Prop := 0 ≤ x ∧ x < 10000
def KvOK (kv : Kv) : Prop := ∀ p ∈ kv, Qi p.1.2.1
def kvD (g : Int → L2.Key) (kv : Kv) : List (List L2.Key × D) := kv.map fun p => ([.inl (p.1.1 : Int), g p.1.2.1, .inl (p.1.2.2 : Int)], D.int (p.2 : Int))
def stp (kv : Kv) (k : Nat × Int × Nat) : Nat × Kv := match lk kv k with
  | some n => (n, kv)
  | none => (kv.length + 1, kv ++ [(k, kv.length + 1)])
theorem num_node (l : T) (x : Int) (r : T) (kv : Kv) : num (.node l x r) kv = stp (num r (num l kv).2).2 ((num l kv).1, x, (num r (num l kv).2).1) := by
  rw [num]; rfl
theorem stp_len (kv : Kv) (k : Nat × Int × Nat) : kv.length ≤ (stp kv k).2.length ∧ (stp kv k).2.length ≤ kv.length + 1 := by
  unfold stp; split
  · exact ⟨Nat.le_refl _, Nat.le_succ _⟩
  · simp
theorem num_len : ∀ (t : T) (kv : Kv), kv.length ≤ (num t kv).2.length ∧ (num t kv).2.length ≤ kv.length + t.sz
  | .nil, kv => ⟨Nat.le_refl _, Nat.le_refl _⟩
  | .node l x r, kv => by
    have a := num_len l kv
    have b := num_len r (num l kv).2
    have c := stp_len (num r (num l kv).2).2 ((num l kv).1, x, (num r (num l kv).2).1)
    rw [num_node]
    simp only [T.sz]
    omega
theorem num_kv : ∀ {t : T} {kv : Kv}, t.all Qi → KvOK kv → KvOK (num t kv).2
  | .nil, kv, _, h => h
  | .node l x r, kv, ⟨a, b, c⟩, h => by
    rw [num_node]
    have h2 := num_kv c (num_kv a h)
    unfold stp; split
    · exact h2
    · intro p hp
      rcases List.mem_append.mp hp with hp | hp
      · exact h2 p hp
      · simp only [List.mem_singleton] at hp
        rw [hp]; exact b
theorem look_kvD (g : Int → L2.Key) (a b : Nat) (x : Int) : ∀ (kv : Kv), (∀ p ∈ kv, g p.1.2.1 = g x → p.1.2.1 = x) → lookD (kvD g kv) [.inl (a : Int), g x, .inl (b : Int)] = (lk kv (a, x, b)).map fun (n : Nat) => D.int (n : Int)
  | [], _ => rfl
  | p :: ps, h => by
    have ih := look_kvD g a b x ps fun q hq => h q (List.mem_cons_of_mem _ hq)
    have hp := h p List.mem_cons_self
    by_cases e : p.1 = (a, x, b)
    · have e1 : lookD (kvD g (p :: ps)) [.inl (a : Int), g x, .inl (b : Int)] = some (D.int (p.2 : Int)) := by
        unfold lookD kvD
        rw [List.map_cons, List.find?_cons_of_pos (by rw [e]; exact decide_eq_true rfl)]; rfl
      have e2 : lk (p :: ps) (a, x, b) = some p.2 := by
        unfold lk
        rw [List.find?_cons_of_pos (by simp [e])]; rfl
      rw [e1, e2]; rfl
    · have e0 : ¬ ([Sum.inl (p.1.1 : Int), g p.1.2.1, Sum.inl (p.1.2.2 : Int)] = ([.inl (a : Int), g x, .inl (b : Int)] : List L2.Key)) := fun z => e (by
        injection z with z1 z2
        injection z2 with z2 z3
        injection z3 with z3 z4
        injection z1 with z1
        injection z3 with z3
        have z2 := hp z2
        obtain ⟨⟨p1, p2, p3⟩, pn⟩ := p
        simp only at z1 z2 z3
        rw [z2, Int.ofNat_inj.mp z1, Int.ofNat_inj.mp z3])
      have e1 : lookD (kvD g (p :: ps)) [.inl (a : Int), g x, .inl (b : Int)] = lookD (kvD g ps) [.inl (a : Int), g x, .inl (b : Int)] := by
        unfold lookD kvD
        rw [List.map_cons, List.find?_cons_of_neg (by simpa using e0)]
      have e2 : lk (p :: ps) (a, x, b) = lk ps (a, x, b) := by
        unfold lk
        rw [List.find?_cons_of_neg (by simpa using e)]
      rw [e1, e2, ih]
theorem put_new {κ : Type} [DecidableEq κ] {kvs : List (κ × D)} {k : κ} {v : D} (h : lookD kvs k = none) : putD kvs k v = kvs ++ [(k, v)] := by
  unfold lookD at h
  unfold putD
  rw [if_neg]
  intro z
  rw [Option.map_eq_none_iff, List.find?_eq_none] at h
  obtain ⟨p, hp, e⟩ := List.any_eq_true.mp z
  exact h p hp e
theorem set_same {S : Store} {q : Nat} {o : O} (h : S[q]? = some o) : S.set q o = S := by
  apply List.ext_getElem?
  intro i
  by_cases e : q = i
  · subst e; rw [set_at h, h]
  · rw [List.getElem?_set_ne e]
theorem setdef_num {S : Store} {q : Nat} {kv : Kv} {g : Int → L2.Key} {a b : Nat} {x : Int} {d : D} (hS : S[q]? = some (.dt (kvD g kv))) (hl : kv.length < 16777216) (hd : keyK? d = some (g x)) (inj : ∀ p ∈ kv, g p.1.2.1 = g x → p.1.2.1 = x) :
    setdefD (.ref q) [.tup [.int a, d, .int b], .int ((kv.length : Int) + 1)] S = some (.int ((stp kv (a, x, b)).1 : Nat), S.set q (.dt (kvD g (stp kv (a, x, b)).2))) := by
  have k1 : ∀ i : Int, keyK? (.int i) = some (.inl i) := fun _ => rfl
  have e1 : keyT? (.tup [.int a, d, .int b]) = some [.inl (a : Int), g x, .inl (b : Int)] := by simp only [keyT?, keysK?, k1, hd]
  have e2 := look_kvD g a b x kv inj
  have e3 : (kvD g kv).length < 16777216 := by unfold kvD; rw [List.length_map]; exact hl
  simp only [setdefD, hS, if_pos e3, e1]
  unfold stp
  cases h : lk kv (a, x, b) with
  | some n =>
    rw [h] at e2
    simp only [e2, Option.map_some]
    rw [set_same hS]
  | none =>
    rw [h] at e2
    simp only [e2, Option.map_none]
    rw [put_new e2]
    simp only [kvD, List.map_append, List.map_cons, List.map_nil, Int.natCast_add, Int.natCast_one]
theorem mMt_ok {T : String} {f : D → FL} {o : ME} {a : MA} {E : En} {S S1 S2 S3 : Store} {x d : D} {xs : List D} (h1 : o E S = .ok x S1) (ht : tyD T x S1 = true) (h2 : a E S1 = .ok xs S2) (h3 : f x xs S2 = some (d, S3)) : mMt T f o a E S = .ok d S3 := by
  unfold mMt; rw [h1, then_ok, if_pos ht, h2, then_ok, h3]; rfl
theorem lend {S : Store} {q : Nat} {g : Int → L2.Key} {kv : Kv} (h : S[q]? = some (.dt (kvD g kv))) : lenD [.ref q] S = some (.int (kv.length : Nat), S) := by
  simp only [lenD, h, kvD, List.length_map]
theorem tyd {S : Store} {q : Nat} {kvs : List (List L2.Key × D)} (h : S[q]? = some (.dt kvs)) : tyD "dict" (.ref q) S = true := by
  simp only [tyD, h]; rfl
abbrev gA : Int → L2.Key := fun x => .inl x
theorem num_law : ∀ (t : T) (n : Nat) (kv : Kv) (S : Store) (q : Nat), t.ht + 1 ≤ n → S[q]? = some (.dt (kvD gA kv)) → kv.length + t.sz < 16777216 →
    Fs n 33 [enc t, .ref q] S = .ok (.int ((num t kv).1 : Nat)) (S.set q (.dt (kvD gA (num t kv).2)))
  | .nil, n, kv, S, q, h, hS, hl => by
    obtain ⟨m, rfl, h'⟩ := Fs_s (c := 0) (Nat.le_trans (by omega) h)
    show Fs (m + 1) 33 [enc .nil, .ref q] S = .ok (.int 0) (S.set q (.dt (kvD gA kv)))
    rw [set_same hS]
    rfl
  | .node l x r, n, kv, S, q, h, hS, hl => by
    obtain ⟨m, rfl, h'⟩ := Fs_s (c := (T.node l x r).ht) h
    simp only [T.ht] at h'
    simp only [T.sz] at hl
    have n1 := num_len l kv
    have n2 := num_len r (num l kv).2
    have i1 := num_law l m kv S q (by omega) hS (by omega)
    have hS1 := set_at (o := .dt (kvD gA (num l kv).2)) hS
    have i2 := num_law r m (num l kv).2 _ q (by omega) hS1 (by omega)
    rw [List.set_set] at i2
    have hS2 := set_at (o := .dt (kvD gA (num r (num l kv).2).2)) hS
    have e := setdef_num (a := (num l kv).1) (b := (num r (num l kv).2).1) (x := x) (d := .int x) hS2 (by omega) rfl fun p _ z => by injection z
    rw [List.set_set] at e
    rw [num_node, Fs_i, enc_node]
    simp only [bod]
    refine runF_ok (r := .ret _ _) rfl ?_
    unfold m__law_number
    rw [sSeq_nx (by rw [sIf_ok (mBl_ok (mOp_ok rfl rfl (show isD _ .non S = some (.bl false, S) from rfl)))]; rfl)]
    rw [sSeq_nx (sSet_ok (mFn_ok (mCons_ok (mCall_ok (mCons_ok (mOp_ok rfl rfl (show ixD _ _ S = some (enc l, S) from rfl)) (mCons_ok rfl rfl)) i1) (mCons_ok (mOp_ok rfl rfl (show ixD _ _ _ = some (.int x, _) from rfl)) (mCons_ok (mCall_ok (mCons_ok (mOp_ok rfl rfl (show ixD _ _ _ = some (enc r, _) from rfl)) (mCons_ok rfl rfl)) i2) rfl))) (show fTup _ _ = some (.tup _, _) from if_pos (Nat.le_of_ble_eq_true rfl))))]
    exact sRet_ok (mMt_ok rfl (tyd hS2) (mCons_ok rfl (mCons_ok (mOp_ok (mFn_ok (mCons_ok rfl rfl) (lend hS2)) rfl (add_int _ _ _)) rfl)) e)
def gB : Int → L2.Key := fun x => .inr (toString x)
theorem gB_inj {x y : Int} (hx : Qi x) (hy : Qi y) (h : gB x = gB y) : x = y := by
  unfold gB at h
  injection h with h
  have a := PySem.W.KIN.num_reads hx.1 (Int.lt_trans hx.2 (by decide))
  have b := PySem.W.KIN.num_reads hy.1 (Int.lt_trans hy.2 (by decide))
  have h : PySem.Str.ofString (toString x) = PySem.Str.ofString (toString y) := h
  rw [h, b] at a
  injection a with a
  exact a.symm
theorem repr_ok {x : Int} (hx : Qi x) (S : Store) : reprD [.int x] S = some (.str (toString x), S) := by
  show (if x.natAbs.log2 < 1920 then some (D.str (toString x), S) else none) = _
  rw [if_pos]
  have : x.natAbs < 2 ^ 14 := by have := hx.1; have := hx.2; omega
  by_cases h0 : x.natAbs = 0
  · rw [h0]; decide
  · exact Nat.lt_trans ((Nat.log2_lt h0).mpr this) (by decide)
theorem num_tie : ∀ (t : T) (n : Nat) (kv : Kv) (S : Store) (q : Nat), t.ht + 1 ≤ n → S[q]? = some (.dt (kvD gB kv)) → kv.length + t.sz < 16777216 → t.all Qi → KvOK kv →
    Fs n 27 [enc t, .ref q] S = .ok (.int ((num t kv).1 : Nat)) (S.set q (.dt (kvD gB (num t kv).2)))
  | .nil, n, kv, S, q, h, hS, hl, _, _ => by
    obtain ⟨m, rfl, h'⟩ := Fs_s (c := 0) (Nat.le_trans (by omega) h)
    show Fs (m + 1) 27 [enc .nil, .ref q] S = .ok (.int 0) (S.set q (.dt (kvD gB kv)))
    rw [set_same hS]
    rfl
  | .node l x r, n, kv, S, q, h, hS, hl, ha, hk => by
    obtain ⟨m, rfl, h'⟩ := Fs_s (c := (T.node l x r).ht) h
    obtain ⟨ha1, ha2, ha3⟩ := ha
    simp only [T.ht] at h'
    simp only [T.sz] at hl
    have n1 := num_len l kv
    have n2 := num_len r (num l kv).2
    have i1 := num_tie l m kv S q (by omega) hS (by omega) ha1 hk
    have hS1 := set_at (o := .dt (kvD gB (num l kv).2)) hS
    have hk1 := num_kv ha1 hk
    have i2 := num_tie r m (num l kv).2 _ q (by omega) hS1 (by omega) ha3 hk1
    rw [List.set_set] at i2
    have hk2 := num_kv ha3 hk1
    have hS2 := set_at (o := .dt (kvD gB (num r (num l kv).2).2)) hS
    have e := setdef_num (a := (num l kv).1) (b := (num r (num l kv).2).1) (x := x) (d := .str (toString x)) hS2 (by omega) rfl fun p hp z => gB_inj (hk2 p hp) ha2 z
    rw [List.set_set] at e
    rw [num_node, Fs_i, enc_node]
    simp only [bod]
    refine runF_ok (r := .ret _ _) rfl ?_
    unfold m_number_tie
    rw [sSeq_nx (by rw [sIf_ok (mBl_ok (mOp_ok rfl rfl (show isD _ .non S = some (.bl false, S) from rfl)))]; rfl)]
    rw [sSeq_nx (show sAsg (gT 4 (gsCons (gN 3) (gsCons (gN 4) (gsCons (gN 5) (gsCons (gN 6) gsNil))))) (mVar 0) (List.map some [D.tup [enc l, D.int x, enc r, D.int ((l.sz + 1 + r.sz : Nat) : Int)], D.ref q] ++ List.replicate (7 - 2) none) S = SR.nx [some (.tup [enc l, .int x, enc r, .int ((l.sz + 1 + r.sz : Nat) : Int)]), some (.ref q), none, some (enc l), some (.int x), some (enc r), some (.int ((l.sz + 1 + r.sz : Nat) : Int))] S from rfl)]
    rw [sSeq_nx (sSet_ok (mFn_ok (mCons_ok (mCall_ok (mCons_ok rfl (mCons_ok rfl rfl)) i1) (mCons_ok (mFn_ok (mCons_ok rfl rfl) (repr_ok ha2 _)) (mCons_ok (mCall_ok (mCons_ok rfl (mCons_ok rfl rfl)) i2) rfl))) (show fTup _ _ = some (.tup _, _) from if_pos (Nat.le_of_ble_eq_true rfl))))]
    exact sRet_ok (mMt_ok rfl (tyd hS2) (mCons_ok rfl (mCons_ok (mOp_ok (mFn_ok (mCons_ok rfl rfl) (lend hS2)) rfl (add_int _ _ _)) rfl)) e)
/-! ### loops -/
theorem fl_ok {I : Wk} {g : MG} {b : MS} (L : Nat) (Inv : Nat → En → Store → Prop) (stop : ∀ E S, Inv L E S → I.at L S = some none)
    (step : ∀ i E S, i < L → Inv i E S → ∃ x E1 S1 E2 S2, I.at i S = some (some x) ∧ g x E S = some (E1, S1) ∧ b E1 S1 = .nx E2 S2 ∧ Inv (i + 1) E2 S2) :
    ∀ (d N i : Nat) (E : En) (S : Store), i + d = L → d < N → Inv i E S → ∃ E' S', fLoop I g b N i E S = .nx E' S' ∧ Inv L E' S' := by
  intro d
  induction d with
  | zero =>
    intro N i E S e hN hi
    cases N with
    | zero => omega
    | succ N =>
      have e : i = L := by omega
      subst e
      refine ⟨E, S, ?_, hi⟩
      rw [fLoop]
      simp only [stop E S hi]
  | succ d ih =>
    intro N i E S e hN hi
    cases N with
    | zero => omega
    | succ N =>
      obtain ⟨x, E1, S1, E2, S2, h1, h2, h3, h4⟩ := step i E S (by omega) hi
      obtain ⟨E', S', h5, h6⟩ := ih N (i + 1) E2 S2 (by omega) (by omega) h4
      refine ⟨E', S', ?_, h6⟩
      rw [fLoop]
      simp only [h1, h2, h3]
      exact h5
theorem sFor_ok {n : Nat} {it : MI} {g : MG} {b : MS} {E E' : En} {S S1 S' : Store} {I : Wk} (h : it E S = .ok I S1) (h2 : fLoop I g b n 0 E S1 = .nx E' S') : sFor n it g b E S = .nx E' S' := by
  unfold sFor; rw [h, thenS_ok, h2]
theorem at_lst {S : Store} {l i : Nat} {xs : List D} (h : S[l]? = some (.lst xs)) : Wk.at i (.lst l) S = some xs[i]? := by
  simp only [Wk.at, h]
theorem iLst_ok {a : ME} {E : En} {S S1 : Store} {l : Nat} {xs : List D} (h : a E S = .ok (.ref l) S1) (e : S1[l]? = some (.lst xs)) : iLst a E S = .ok (.lst l) S1 := by
  unfold iLst; rw [h, then_ok]; simp only [e]
theorem sExp_ok {a : ME} {E : En} {S S1 : Store} {x : D} (h : a E S = .ok x S1) : sExp a E S = .nx E S1 := by
  unfold sExp; rw [h]; rfl
theorem nums_snoc : ∀ (a : List T) (t : T) (kv : Kv), nums (a ++ [t]) kv = (num t (nums a kv)).2
  | [], _, _ => rfl
  | b :: a, t, kv => nums_snoc a t _
theorem nums_take {ts : List T} {i : Nat} (h : i < ts.length) (kv : Kv) : nums (ts.take (i + 1)) kv = (num ts[i] (nums (ts.take i) kv)).2 := by
  rw [List.take_add_one, List.getElem?_eq_getElem h]
  exact nums_snoc _ _ _
theorem nums_len : ∀ (ts : List T) (kv : Kv), (∀ t ∈ ts, t.sz ≤ 1000) → (nums ts kv).length ≤ kv.length + 1000 * ts.length
  | [], kv, _ => Nat.le_refl _
  | t :: ts, kv, h => by
    have a := num_len t kv
    have b := nums_len ts (num t kv).2 fun s hs => h s (List.mem_cons_of_mem _ hs)
    have c := h t List.mem_cons_self
    rw [List.length_cons]
    show (nums ts (num t kv).2).length ≤ _
    omega
theorem nums_kv : ∀ (ts : List T) (kv : Kv), (∀ t ∈ ts, t.all Qi) → KvOK kv → KvOK (nums ts kv)
  | [], kv, _, h => h
  | t :: ts, kv, h, hk => nums_kv ts _ (fun s hs => h s (List.mem_cons_of_mem _ hs)) (num_kv (h t List.mem_cons_self) hk)
def Good (t : T) : Prop := t.even = true ∧ t.sz ≤ 1000 ∧ t.all Qi
theorem set_end (S : Store) (o p : O) : (S ++ [o]).set S.length p = S ++ [p] := by
  rw [List.set_append_right _ _ (Nat.le_refl _), Nat.sub_self]; rfl
theorem newc_int (t : T) (ts : List T) : ((num t (nums ts [])).2.length : Int) - ((nums ts []).length : Int) = (newc t ts : Nat) := by
  have := num_len t (nums ts [])
  unfold newc; omega
theorem lawnew_ok {n : Nat} (hn : 100 ≤ n) (t : T) (ts : List T) (l : Nat) (S : Store) (hS : S[l]? = some (.lst (ts.map enc))) (ht : Good t) (hts : ∀ t ∈ ts, Good t) (h2 : ts.length ≤ 2) :
    ∃ G, Fs n 35 [enc t, .ref l] S = .ok (.int (newc t ts : Nat)) (S ++ G) := by
  obtain ⟨m, rfl, h'⟩ := Fs_s (c := 99) hn
  rw [Fs_i]
  simp only [bod]
  obtain ⟨E', S', lp, z, rfl, rfl⟩ := fl_ok (I := .lst l) (g := gN 3) (b := sExp (mCall (Fs m 33) (mCons (mVar 3) (mCons (mVar 2) mNil)))) ts.length
    (fun i E S' => ∃ z, E = [some (enc t), some (.ref l), some (.ref S.length), z, none] ∧ S' = S ++ [.dt (kvD gA (nums (ts.take i) []))])
    (by
      rintro E S' ⟨z, rfl, rfl⟩
      rw [at_lst (app_at hS), List.getElem?_eq_none (by simp)])
    (by
      rintro i E S' hi ⟨z, rfl, rfl⟩
      obtain ⟨g1, g2, g3⟩ := hts _ (List.getElem_mem hi)
      have q := num_law ts[i] m (nums (ts.take i) []) (S ++ [.dt (kvD gA (nums (ts.take i) []))]) S.length (by have := ht_of g1 g2; omega) (app_new _ _) (by
        have := nums_len (ts.take i) [] fun t ht => (hts t (List.mem_of_mem_take ht)).2.1
        rw [List.length_take] at this
        simp only [List.length_nil] at this
        omega)
      rw [set_end] at q
      refine ⟨enc ts[i], _, _, _, _, ?_, rfl, sExp_ok (mCall_ok (mCons_ok rfl (mCons_ok rfl rfl)) q), some (enc ts[i]), rfl, by rw [nums_take hi]⟩
      rw [at_lst (app_at hS), List.getElem?_map, List.getElem?_eq_getElem hi]; rfl)
    ts.length 20000000 0 [some (enc t), some (.ref l), some (.ref S.length), none, none] (S ++ [.dt []]) (by omega) (by omega) ⟨none, rfl, rfl⟩
  rw [List.take_length] at lp
  obtain ⟨g1, g2, g3⟩ := ht
  have q := num_law t m (nums ts []) (S ++ [.dt (kvD gA (nums ts []))]) S.length (by have := ht_of g1 g2; omega) (app_new _ _) (by
    have := nums_len ts [] fun t ht => (hts t ht).2.1
    simp only [List.length_nil] at this
    omega)
  rw [set_end] at q
  refine ⟨[.dt (kvD gA (num t (nums ts [])).2)], ?_⟩
  refine runF_ok (r := .ret _ _) rfl ?_
  rw [show List.map some [enc t, D.ref l] ++ List.replicate (5 - 2) none = [some (enc t), some (.ref l), none, none, none] from rfl]
  unfold m__law_new
  rw [sSeq_nx (sSet_ok (show fDt _ S = .ok (.ref S.length) (S ++ [.dt []]) from rfl))]
  simp only [List.set_cons_succ, List.set_cons_zero]
  rw [sSeq_nx (sFor_ok (iLst_ok rfl (app_at hS)) lp)]
  rw [sSeq_nx (sSet_ok (mFn_ok (mCons_ok rfl rfl) (lend (app_new _ _))))]
  rw [sSeq_nx (sExp_ok (mCall_ok (mCons_ok rfl (mCons_ok rfl rfl)) q))]
  refine sRet_ok ?_
  rw [← newc_int]
  exact mOp_ok (mFn_ok (mCons_ok rfl rfl) (lend (app_new _ _))) rfl (sub_int _ _ _)
theorem fresh_ok {n : Nat} (hn : 100 ≤ n) (t : T) (ts : List T) (l : Nat) (S : Store) (hS : S[l]? = some (.lst (ts.map enc))) (ht : Good t) (hts : ∀ t ∈ ts, Good t) (h2 : ts.length ≤ 2) :
    ∃ G, Fs n 28 [enc t, .ref l] S = .ok (.int (newc t ts : Nat)) (S ++ G) := by
  obtain ⟨m, rfl, h'⟩ := Fs_s (c := 99) hn
  rw [Fs_i]
  simp only [bod]
  obtain ⟨E0, S0, lp0, z0, rfl, e0⟩ := fl_ok (I := .lst l) (g := gN 2) (b := sExp (mCallP (Fs m 19) (mCons (mVar 2) mNil))) ts.length
    (fun i E S' => ∃ z, E = [some (enc t), some (.ref l), z, none, none] ∧ S' = S)
    (by
      rintro E S' ⟨z, rfl, rfl⟩
      rw [at_lst hS, List.getElem?_eq_none (by simp)])
    (by
      rintro i E S' hi ⟨z, rfl, rfl⟩
      obtain ⟨g1, g2, g3⟩ := hts _ (List.getElem_mem hi)
      refine ⟨enc ts[i], _, _, _, _, ?_, rfl, sExp_ok (mCallP_ok (mCons_ok rfl rfl) (c_looktie (n := m) (by omega) ts[i] g1 g2 _)), some (enc ts[i]), rfl, rfl⟩
      rw [at_lst hS, List.getElem?_map, List.getElem?_eq_getElem hi]; rfl)
    ts.length 20000000 0 [some (enc t), some (.ref l), none, none, none] S (by omega) (by omega) ⟨none, rfl, rfl⟩
  rw [e0] at lp0
  obtain ⟨E', S', lp, z, rfl, rfl⟩ := fl_ok (I := .lst l) (g := gN 2) (b := sExp (mCall (Fs m 27) (mCons (mVar 2) (mCons (mVar 3) mNil)))) ts.length
    (fun i E S' => ∃ z, E = [some (enc t), some (.ref l), z, some (.ref S.length), none] ∧ S' = S ++ [.dt (kvD gB (nums (ts.take i) []))])
    (by
      rintro E S' ⟨z, rfl, rfl⟩
      rw [at_lst (app_at hS), List.getElem?_eq_none (by simp)])
    (by
      rintro i E S' hi ⟨z, rfl, rfl⟩
      obtain ⟨g1, g2, g3⟩ := hts _ (List.getElem_mem hi)
      have q := num_tie ts[i] m (nums (ts.take i) []) (S ++ [.dt (kvD gB (nums (ts.take i) []))]) S.length (by have := ht_of g1 g2; omega) (app_new _ _) (by
        have := nums_len (ts.take i) [] fun t ht => (hts t (List.mem_of_mem_take ht)).2.1
        rw [List.length_take] at this
        simp only [List.length_nil] at this
        omega) g3 (nums_kv _ [] (fun t ht => (hts t (List.mem_of_mem_take ht)).2.2) fun p hp => by cases hp)
      rw [set_end] at q
      refine ⟨enc ts[i], _, _, _, _, ?_, rfl, sExp_ok (mCall_ok (mCons_ok rfl (mCons_ok rfl rfl)) q), some (enc ts[i]), rfl, by rw [nums_take hi]⟩
      rw [at_lst (app_at hS), List.getElem?_map, List.getElem?_eq_getElem hi]; rfl)
    ts.length 20000000 0 [some (enc t), some (.ref l), z0, some (.ref S.length), none] (S ++ [.dt []]) (by omega) (by omega) ⟨z0, rfl, rfl⟩
  rw [List.take_length] at lp
  obtain ⟨g1, g2, g3⟩ := ht
  have q := num_tie t m (nums ts []) (S ++ [.dt (kvD gB (nums ts []))]) S.length (by have := ht_of g1 g2; omega) (app_new _ _) (by
    have := nums_len ts [] fun t ht => (hts t ht).2.1
    simp only [List.length_nil] at this
    omega) g3 (nums_kv _ [] (fun t ht => (hts t ht).2.2) fun p hp => by cases hp)
  rw [set_end] at q
  refine ⟨[.dt (kvD gB (num t (nums ts [])).2)], ?_⟩
  refine runF_ok (r := .ret _ _) rfl ?_
  rw [show List.map some [enc t, D.ref l] ++ List.replicate (5 - 2) none = [some (enc t), some (.ref l), none, none, none] from rfl]
  unfold m_fresh
  rw [sSeq_nx (sExp_ok (mCallP_ok (mCons_ok rfl rfl) (c_looktie (n := m) (by omega) t g1 g2 _)))]
  rw [sSeq_nx (sFor_ok (iLst_ok rfl hS) lp0)]
  rw [sSeq_nx (sSet_ok (show fDt _ S = .ok (.ref S.length) (S ++ [.dt []]) from rfl))]
  simp only [List.set_cons_succ, List.set_cons_zero]
  rw [sSeq_nx (sFor_ok (iLst_ok rfl (app_at hS)) lp)]
  rw [sSeq_nx (sSet_ok (mFn_ok (mCons_ok rfl rfl) (lend (app_new _ _))))]
  rw [sSeq_nx (sExp_ok (mCall_ok (mCons_ok rfl (mCons_ok rfl rfl)) q))]
  refine sRet_ok ?_
  rw [← newc_int]
  exact mOp_ok (mFn_ok (mCons_ok rfl rfl) (lend (app_new _ _))) rfl (sub_int _ _ _)
end K68

set_option Elab.async false
set_option linter.all false
set_option maxRecDepth 100000
set_option maxHeartbeats 4000000
namespace K68
open PySem PySem.Spec PyProof.Rows L2 L3
theorem mOrT_f {t u : MT} {E : En} {S S' : Store} (h : t E S = .ok false S') : mOrT t u E S = u E S' := by
  unfold mOrT; rw [h]; rfl
theorem mTru_ok {a : ME} {E : En} {S S' : Store} {d : D} {b : Bool} (h : a E S = .ok d S') (e : truD d S' = some b) : mTru a E S = .ok b S' := by
  unfold mTru; rw [h, then_ok, e]
theorem mNotT_ok {t : MT} {E : En} {S S' : Store} {b : Bool} (h : t E S = .ok b S') : mNotT t E S = .ok (!b) S' := by
  unfold mNotT; rw [h]; rfl
theorem cl_ok {α : Type} {I : Wk} {g : MG} {e : ME} {Ew : En} {S : Store} {xs : List α} {en f : α → D} (hat : ∀ i, I.at i S = some ((xs.map en)[i]?)) (he : ∀ x ∈ xs, ∃ E1, g (en x) Ew S = some (E1, S) ∧ e E1 S = .ok (f x) S) :
    ∀ (suf pre : List α) (N : Nat) (acc : List D), xs = pre ++ suf → suf.length < N → acc.length + suf.length ≤ 16777216 → cLoop I g mYes e Ew N pre.length acc S = .ok (acc ++ suf.map f) S
  | suf, pre, 0, acc, hx, hN, ha => by omega
  | [], pre, N + 1, acc, hx, hN, ha => by
    rw [cLoop]
    have : (xs.map en)[pre.length]? = none := by rw [hx]; simp
    simp only [hat, this, List.map_nil, List.append_nil]
  | x :: suf, pre, N + 1, acc, hx, hN, ha => by
    have h1 : (xs.map en)[pre.length]? = some (en x) := by rw [hx]; simp
    obtain ⟨E1, h2, h3⟩ := he x (by rw [hx]; simp)
    have ih := cl_ok hat he suf (pre ++ [x]) N (acc ++ [f x]) (by rw [hx]; simp) (by simp only [List.length_cons] at hN; omega) (by simp only [List.length_cons] at ha; simp only [List.length_append, List.length_cons, List.length_nil]; omega)
    rw [List.length_append] at ih
    rw [cLoop]
    simp only [hat, h1, h2, mYes, h3]
    rw [if_pos (by simp only [List.length_cons] at ha; omega)]
    rw [show pre.length + 1 = pre.length + [x].length from rfl, ih]
    simp
theorem mComp_ok {α : Type} {n : Nat} {it : MI} {g : MG} {e : ME} {vs : List Nat} {E : En} {S : Store} {I : Wk} {xs : List α} {en f : α → D} (hi : it E S = .ok I S) (hat : ∀ i, I.at i S = some ((xs.map en)[i]?))
    (he : ∀ x ∈ xs, ∃ E1, g (en x) (wipeE E vs) S = some (E1, S) ∧ e E1 S = .ok (f x) S) (hn : xs.length < n) (hl : xs.length ≤ 16777216) : mComp n it g mYes e vs E S = .ok (.ref S.length) (S ++ [.lst (xs.map f)]) := by
  unfold mComp
  rw [hi, then_ok]
  have := cl_ok hat he xs [] n [] rfl hn (by simpa using hl)
  rw [List.length_nil, List.nil_append] at this
  simp only [this]
theorem ints_map {α : Type} (f : α → Int) : ∀ xs : List α, ints? (xs.map fun x => .int (f x)) = some (xs.map f)
  | [] => rfl
  | x :: xs => by rw [List.map_cons, ints?, ints_map f xs]; rfl
theorem bls_map {α : Type} : ∀ xs : List α, bls? (xs.map fun _ => .bl true) = some (xs.map fun _ => true)
  | [] => rfl
  | x :: xs => by rw [List.map_cons, bls?, bls_map xs]; rfl
theorem sum_new {α : Type} (f : α → Int) (xs : List α) (S : Store) : sumD [.ref S.length] (S ++ [.lst (xs.map fun x => .int (f x))]) = some (.int (xs.map f).sum, S ++ [.lst (xs.map fun x => .int (f x))]) := by
  have : lst? (S ++ [.lst (xs.map fun x => .int (f x))]) S.length = some (xs.map fun x => .int (f x)) := by simp only [lst?, app_new]
  simp only [sumD, overL, this, ints_map, Option.map_some]
theorem all_new {α : Type} (xs : List α) (S : Store) : allD [.ref S.length] (S ++ [.lst (xs.map fun _ => .bl true)]) = some (.bl true, S ++ [.lst (xs.map fun _ => .bl true)]) := by
  have : lst? (S ++ [.lst (xs.map fun _ => .bl true)]) S.length = some (xs.map fun _ => .bl true) := by simp only [lst?, app_new]
  simp only [allD, overB, this, bls_map]
  have : ((xs.map fun _ => true).all id) = true := by simp
  rw [this]
def tot (ts : List T) : Nat := (ts.map T.sz).sum
theorem tot_int : ∀ ts : List T, (ts.map fun t => (t.sz : Int)).sum = (tot ts : Nat)
  | [] => rfl
  | t :: ts => by
    have := tot_int ts
    unfold tot at this ⊢
    rw [List.map_cons, List.map_cons, List.sum_cons, List.sum_cons, this]
    omega
/-! ### the check of cheapness -/
theorem cheap_ok {n : Nat} (hn : 150 ≤ n) (ms ts : List T) (a b : Nat) (S : Store) (hm : S[a]? = some (.lst (ms.map enc))) (hs : S[b]? = some (.lst (ts.map enc))) (gm : ∀ t ∈ ms, Good t) (gs : ∀ t ∈ ts, Good t) (lm : ms.length ≤ 2) (ls : ts.length ≤ 2)
    (hb : ∀ t ∈ ms, newc t ts ≤ 8 + 8 * (1 + lg (min 1000 (tot ts + 1) + 1))) : ∃ G, Fs n 36 [.ref a, .ref b] S = .ok (.bl true) (S ++ G) := by
  obtain ⟨m, rfl, h'⟩ := Fs_s (c := 149) hn
  rw [Fs_i]
  simp only [bod]
  have e1 : mComp 20000000 (iLst (mVar 1)) (gN 6) mYes (mCallP (Fs m 30) (mCons (mVar 6) mNil)) [6] [some (.ref a), some (.ref b), none, none, none, none, none] S = .ok (.ref S.length) (S ++ [.lst (ts.map fun t => .int (t.sz : Int))]) :=
    mComp_ok (xs := ts) (en := enc) (f := fun t => .int (t.sz : Int)) (iLst_ok rfl hs) (fun i => at_lst hs) (fun t ht => ⟨_, rfl, mCallP_ok (mCons_ok rfl rfl) (c_lcount (n := m) (by omega) t S)⟩) (by omega) (by omega)
  have e2 := sum_new (fun t : T => (t.sz : Int)) ts S
  rw [tot_int] at e2
  obtain ⟨E', S', lp, z3, z4, z5, G', rfl, rfl⟩ := fl_ok (I := .lst a) (g := gN 3) (b := (sSeq (sSet 4 (mCall (Fs m 35) (mCons (mVar 3) (mCons (mVar 1) mNil))))
    (sSeq (sSet 5 (mOp addD (mC (.int 8)) (mOp mulD (mC (.int 8)) (mCallP (Fs m 26) (mCons (mFn minD (mCons (mC (.int 1000)) (mCons (mVar 2) mNil))) mNil)))))
    (sIf (mOrT (mBl (mOp gtD (mVar 4) (mVar 5))) (mOrT (mBl (mOp neD (mCall (Fs m 28) (mCons (mVar 3) (mCons (mVar 1) mNil))) (mVar 4))) (mBl (mOp gtD (mCallP (Fs m 34) (mCons (mVar 3) mNil)) (mCallP (Fs m 26) (mCons (mCallP (Fs m 30) (mCons (mVar 3) mNil)) mNil))))))
    (sRet (mC (.bl false)))
    sNil)))) ms.length
    (fun i E S' => ∃ z3 z4 z5 G, E = [some (.ref a), some (.ref b), some (.int ((tot ts : Nat) + 1)), z3, z4, z5, none] ∧ S' = S ++ G)
    (by
      rintro E S' ⟨z3, z4, z5, G, rfl, rfl⟩
      rw [at_lst (app_at hm), List.getElem?_eq_none (by simp)])
    (by
      rintro i E S' hi ⟨z3, z4, z5, G, rfl, rfl⟩
      have gt := gm _ (List.getElem_mem hi)
      have hb := hb _ (List.getElem_mem hi)
      obtain ⟨G1, q1⟩ := lawnew_ok (n := m) (by omega) ms[i] ts b (S ++ G) (app_at hs) gt gs ls
      obtain ⟨G2, q2⟩ := fresh_ok (n := m) (by omega) ms[i] ts b (S ++ G ++ G1) (app_at (app_at hs)) gt gs ls
      have q3 := fun S => c_deep ms[i] m S (by have := ht_of gt.1 gt.2.1; omega)
      have q4 := fun S => c_steps (n := m) (by omega) ms[i].sz (by have := gt.2.1; omega) S
      have q5 := fun S => c_lcount (n := m) (by omega) ms[i] S
      have q6 := fun S => c_steps (n := m) (by omega) (min 1000 (tot ts + 1)) (by omega) S
      have q7 : ∀ S, minD [.int 1000, .int ((tot ts : Nat) + 1)] S = some (.int (min 1000 (tot ts + 1) : Nat), S) := fun S => by
        rw [min_int]
        have : (if ((tot ts : Nat) : Int) + 1 < 1000 then ((tot ts : Nat) : Int) + 1 else 1000) = ((min 1000 (tot ts + 1) : Nat) : Int) := by split <;> omega
        rw [this]
      have hh := ht_lg ms[i] gt.1
      refine ⟨enc ms[i], _, _, [some (.ref a), some (.ref b), some (.int ((tot ts : Nat) + 1)), some (enc ms[i]), some (.int (newc ms[i] ts : Nat)), some (.int (8 + 8 * ((1 + lg (min 1000 (tot ts + 1) + 1) : Nat) : Int))), none], S ++ (G ++ G1 ++ G2), ?_, rfl, ?_, _, _, _, _, rfl, rfl⟩
      · rw [at_lst (app_at hm), List.getElem?_map, List.getElem?_eq_getElem hi]; rfl
      · rw [sSeq_nx (sSet_ok (mCall_ok (mCons_ok rfl (mCons_ok rfl rfl)) q1))]
        rw [sSeq_nx (sSet_ok (mOp_ok rfl (mOp_ok rfl (mCallP_ok (mCons_ok (mFn_ok (mCons_ok rfl (mCons_ok rfl rfl)) (q7 _)) rfl) (q6 _)) (mul_int 8 _ _ (.inl (by decide)))) (add_int _ _ _)))]
        simp only [List.set_cons_succ, List.set_cons_zero]
        have t1 : ¬ (8 + 8 * ((1 + lg (min 1000 (tot ts + 1) + 1) : Nat) : Int)) < ((newc ms[i] ts : Nat) : Int) := by omega
        have t3 : ¬ ((1 + lg (ms[i].sz + 1) : Nat) : Int) < ((ms[i].ht : Nat) : Int) := by omega
        rw [sIf_ok (c := false) (S' := S ++ (G ++ G1 ++ G2))]
        · rfl
        rw [mOrT_f (S' := S ++ G ++ G1) (by rw [mBl_ok (mOp_ok rfl rfl (gt_int _ _ _)), decide_eq_false t1])]
        rw [mOrT_f (S' := S ++ G ++ G1 ++ G2) (by rw [mBl_ok (mOp_ok (mCall_ok (mCons_ok rfl (mCons_ok rfl rfl)) q2) rfl (ne_int _ _ _)), decide_eq_true rfl]; rfl)]
        rw [mBl_ok (mOp_ok (mCallP_ok (mCons_ok rfl rfl) (q3 _)) (mCallP_ok (mCons_ok (mCallP_ok (mCons_ok rfl rfl) (q5 _)) rfl) (q4 _)) (gt_int _ _ _)), decide_eq_false t3]
        simp only [List.append_assoc])
    ms.length 20000000 0 [some (.ref a), some (.ref b), some (.int ((tot ts : Nat) + 1)), none, none, none, none] (S ++ [.lst (ts.map fun t => .int (t.sz : Int))]) (by omega) (by omega) ⟨none, none, none, _, rfl, rfl⟩
  refine ⟨G', ?_⟩
  refine runF_ok (r := .ret _ _) rfl ?_
  rw [show List.map some [D.ref a, D.ref b] ++ List.replicate (7 - 2) none = [some (.ref a), some (.ref b), none, none, none, none, none] from rfl]
  unfold m__law_is_cheap
  rw [sSeq_nx (sSet_ok (mOp_ok (mFn_ok (mCons_ok e1 rfl) e2) rfl (add_int _ _ _)))]
  simp only [List.set_cons_succ, List.set_cons_zero]
  rw [sSeq_nx (sFor_ok (iLst_ok rfl (app_at hm)) lp)]
  exact sRet_ok rfl
theorem kd_lst {S : Store} {l : Nat} {xs : List D} (h : S[l]? = some (.lst xs)) : kindD (.ref l) S = some "list" := by
  simp only [kindD, h]
theorem ki6 : kitKs "list" ["list", "tuple"] = some true := by decide +kernel
theorem tied_ok {P : Int → Prop} {n : Nat} (hn : 100 ≤ n) (xs : List Int) (l : Nat) (S : Store) (hx : xs.length ≤ 1000) (hP : ∀ x ∈ xs, P x) (hS : S[l]? = some (.lst (xs.map .int))) :
    ∃ t G, Fs n 21 [.ref l] S = .ok (enc t) (S ++ G) ∧ t.even = true ∧ t.sz = xs.length ∧ t.all P := by
  obtain ⟨m, rfl, h'⟩ := Fs_s (c := 99) hn
  rw [Fs_i]
  simp only [bod]
  have e1 : mComp 20000000 (iLst (mVar 0)) (gN 1) mYes (mCallP (Fs m 15) (mCons (mVar 1) mNil)) [1] [some (.ref l), none] S = .ok (.ref S.length) (S ++ [.lst (xs.map fun _ => .bl true)]) :=
    mComp_ok (xs := xs) (en := .int) (f := fun _ => .bl true) (iLst_ok rfl hS) (fun i => at_lst hS) (fun t ht => ⟨_, rfl, mCallP_ok (mCons_ok rfl rfl) (c_item (n := m) (by omega) t S)⟩) (by omega) (by omega)
  have t1 : mTru (mIsi ["list", "tuple"] (mVar 0)) [some (.ref l), none] S = .ok true S := by
    refine mTru_ok (d := .bl true) ?_ rfl
    unfold mIsi
    rw [show mVar 0 [some (.ref l), none] S = .ok (.ref l) S from rfl, then_ok]
    simp only [kd_lst hS, ki6]
  have lx : (xs.map D.int).length = xs.length := List.length_map _
  have t2 : mBl (mOp gtD (mFn lenD (mCons (mVar 0) mNil)) (mC (.int 1000))) [some (.ref l), none] S = .ok false S := by
    rw [mBl_ok (mOp_ok (mFn_ok (mCons_ok rfl rfl) (lenr hS)) rfl (gt_int _ _ _)), decide_eq_false (by rw [lx]; omega)]
  have hS1 : (S ++ [O.lst (xs.map fun _ => .bl true)])[l]? = some (.lst (xs.map .int)) := app_at hS
  have c1 : lst? (S ++ [O.lst (xs.map fun _ => .bl true)]) l = some (xs.map .int) := by simp only [lst?, hS1]
  have c2 : listD [.ref l] (S ++ [O.lst (xs.map fun _ => .bl true)]) = some (.ref (S ++ [O.lst (xs.map fun _ => .bl true)]).length, S ++ [O.lst (xs.map fun _ => .bl true)] ++ [.lst (xs.map .int)]) := by
    simp only [listD, c1]
  have hl : lg (xs.length + 1) ≤ 26 := by
    have a := lg_mono 1001 (xs.length + 1) (by omega)
    have c : lg 1001 ≤ 26 := by
      repeat (rw [lg]; simp)
    omega
  obtain ⟨t, G, e, r⟩ := half_ok (P := P) _ m xs (S ++ [O.lst (xs.map fun _ => .bl true)]).length _ (Nat.le_refl _) (by omega) hx hP (app_new (S ++ [O.lst (xs.map fun _ => .bl true)]) (.lst (xs.map .int)))
  refine ⟨t, [O.lst (xs.map fun _ => .bl true)] ++ [.lst (xs.map .int)] ++ G, ?_, r⟩
  rw [show S ++ ([O.lst (xs.map fun _ => .bl true)] ++ [.lst (xs.map .int)] ++ G) = S ++ [O.lst (xs.map fun _ => .bl true)] ++ [.lst (xs.map .int)] ++ G by simp]
  refine runF_ok (r := .ret _ _) rfl ?_
  rw [show List.map some [D.ref l] ++ List.replicate (2 - 1) none = [some (.ref l), none] from rfl]
  unfold m_tied
  rw [sSeq_nx (E' := [some (.ref l), none]) (S' := S ++ [O.lst (xs.map fun _ => .bl true)])]
  · exact sRet_ok (mCall_ok (mCons_ok (mFn_ok (mCons_ok rfl rfl) c2) rfl) e)
  · rw [sIf_ok (c := false) (S' := S ++ [O.lst (xs.map fun _ => .bl true)])]
    · rfl
    rw [mOrT_f (mNotT_ok t1), mOrT_f t2]
    exact mNotT_ok (mTru_ok (mFn_ok (mCons_ok e1 rfl) (all_new xs S)) rfl)
end K68

set_option Elab.async false
set_option linter.all false
set_option maxRecDepth 100000
set_option maxHeartbeats 4000000
namespace K68
open PySem PySem.Spec PyProof.Rows L2 L3
theorem St4.app {ns : List Int} {l : Nat} {S G : Store} (h : St4 ns l S) : St4 ns l (S ++ G) := let ⟨a, b, c, h, g⟩ := h; ⟨a, b, c, app_at h, g⟩
def upto (k : Nat) : List Int := (List.range k).map fun (i : Nat) => (i : Int)
theorem mLrg_ok {a : MA} {E : En} {S S1 : Store} {k : Nat} (h : a E S = .ok [.int (k : Int)] S1) (hk : k ≤ 1000) : mLrg a E S = .ok (.ref S1.length) (S1 ++ [.lst ((upto k).map .int)]) := by
  unfold mLrg
  rw [h, then_ok]
  simp only
  rw [if_pos (by omega), Int.toNat_natCast, upto, List.map_map]
  rfl
theorem good_more {t : T} (g : Good t) {k : Nat} {x : Int} (hx : Qi x) (hs : t.sz < 1000) : Good (more t k x) := ⟨even_more t k x g.1, by rw [sz_more]; omega, all_more g.2.2 hx⟩
theorem good_less {t : T} (g : Good t) {k : Nat} (hk : k < t.sz) : Good (less t k) := ⟨even_less t k hk g.1, by have := sz_less t k hk; have := g.2.1; omega, all_less g.2.2⟩
theorem good_cut {t : T} (g : Good t) {k : Nat} (hk : k ≤ t.sz) : Good (cut t k).1 ∧ Good (cut t k).2 := by
  have a := even_cut t k g.1
  have b := sz_cut t k hk
  have c := all_cut (P := Qi) (k := k) g.2.2
  have d := g.2.1
  exact ⟨⟨a.1, by omega, c.1⟩, a.2, by omega, c.2⟩
theorem new_more {t : T} (g : Good t) (k : Nat) (x : Int) : newc (more t k x) [t] ≤ 3 * lg (t.sz + 1) + 1 := by
  have a := newc_le (more t k x) [t]
  have b := occ_more (cl_some [t]) t k x (old_some (List.mem_singleton_self t))
  have c := ht_lg t g.1
  omega
theorem new_less {t : T} (g : Good t) (k : Nat) : newc (less t k) [t] ≤ 3 * lg (t.sz + 1) + 3 := by
  have a := newc_le (less t k) [t]
  have b := occ_less (cl_some [t]) t k (old_some (List.mem_singleton_self t))
  have c := ht_lg t g.1
  omega
theorem new_cut {t : T} (g : Good t) {k : Nat} (hk : k ≤ t.sz) : newc (cut t k).1 [t] ≤ 7 * lg (t.sz + 1) ∧ newc (cut t k).2 [t] ≤ 7 * lg (t.sz + 1) := by
  have a1 := newc_le (cut t k).1 [t]
  have a2 := newc_le (cut t k).2 [t]
  have b := occ_cut (cl_some [t]) t k hk g.1 (old_some (List.mem_singleton_self t))
  have c := ht_lg t g.1
  have s := sz_cut t k hk
  have l1 := lg_mono (t.sz + 1) ((cut t k).1.sz + 1) (by omega)
  have l2 := lg_mono (t.sz + 1) ((cut t k).2.sz + 1) (by omega)
  omega
theorem new_both {a b : T} (ga : Good a) (gb : Good b) : newc (both b a) [a, b] ≤ 6 * lg (a.sz + b.sz + 1) + 4 := by
  have x := newc_le (both b a) [a, b]
  have y := occ_both (cl_some [a, b]) b a gb.1 ga.1 (old_some (by simp)) (old_some (by simp))
  rw [show b.sz + a.sz + 1 = a.sz + b.sz + 1 by omega] at y
  omega
theorem lg_cap {s : Nat} (h : s ≤ 1000) : lg (s + 1) ≤ lg (min 1000 (s + 1) + 1) := lg_mono _ _ (by omega)
/-- one turn -/
def mTurn (F : Nat → FN) : MS :=
    (sSeq (sSet 5 (mCall (F 29) (mCons (mVar 1) (mCons (mC (.int 4)) mNil))))
    (sSeq (sSet 6 (mCallP (F 30) (mCons (mVar 3) mNil)))
    (sSeq (sSet 7 (mCall (F 29) (mCons (mVar 1) (mCons (mOp addD (mVar 6) (mC (.int 1))) mNil))))
    (sSeq (sIf (mAndT (mBl (mOp eqD (mVar 5) (mC (.int 0)))) (mBl (mOp ltD (mVar 6) (mC (.int 1000)))))
    (sSet 9 (mFn fLst (mCons (mCallP (F 22) (mCons (mVar 3) (mCons (mVar 7) (mCons (mOp addD (mC (.int 5000)) (mVar 4)) mNil)))) mNil)))
    (sIf (mAndT (mBl (mOp eqD (mVar 5) (mC (.int 1)))) (mBl (mOp ltD (mVar 7) (mVar 6))))
    (sSet 9 (mFn fLst (mCons (mCallP (F 23) (mCons (mVar 3) (mCons (mVar 7) mNil))) mNil)))
    (sSet 9 (mFn listD (mCons (mCallP (F 24) (mCons (mVar 3) (mCons (mVar 7) mNil))) mNil)))))
    (sSeq (sIf (mNotT (mTru (mCall (F 36) (mCons (mVar 9) (mCons (mFn fLst (mCons (mVar 3) mNil)) mNil)))))
    (sRet (mC (.bl false)))
    sNil)
    (sSeq (sSet 8 (mFn fLst mNil))
    (sSeq (sIf (mBl (mOp eqD (mFn lenD (mCons (mVar 9) mNil)) (mC (.int 2))))
    (sSet 8 (mFn fLst (mCons (mCallP (F 25) (mCons (mOp ixD (mVar 9) (mC (.int 1))) (mCons (mOp ixD (mVar 9) (mC (.int 0))) mNil))) mNil)))
    sNil)
    (sSeq (sIf (mNotT (mTru (mCall (F 36) (mCons (mVar 8) (mCons (mVar 9) mNil)))))
    (sRet (mC (.bl false)))
    sNil)
    (sSet 3 (mOp ixD (mOp addD (mVar 8) (mVar 9)) (mC (.int 0))))))))))))
theorem notC {F : FN} {a : MA} {E : En} {S S1 S2 : Store} {xs : List D} (h : a E S = .ok xs S1) (e : F xs S1 = .ok (.bl true) S2) (x y : MS) : sIf (mNotT (mTru (mCall F a))) x y E S = y E S2 := by
  rw [sIf_ok (mNotT_ok (mTru_ok (mCall_ok h e) rfl))]; rfl
theorem fLst1 (d : D) (S : Store) : fLst [d] S = some (.ref S.length, S ++ [.lst [d]]) := rfl
theorem add_lst {S : Store} {a b : Nat} {xs ys : List D} (h1 : S[a]? = some (.lst xs)) (h2 : S[b]? = some (.lst ys)) (hl : xs.length + ys.length ≤ 16777216) : addD (.ref a) (.ref b) S = some (.ref S.length, S ++ [.lst (xs ++ ys)]) := by
  simp only [addD, h1, h2, if_pos hl]
theorem lenL {S : Store} {l : Nat} {xs : List D} (h : S[l]? = some (.lst xs)) : lenD [.ref l] S = some (.int xs.length, S) := lenr h
/-- the end of a turn: what was made, and what is tied of it -/
theorem turn_end {m : Nat} (hm : 180 ≤ m) {ns : List Int} (t : T) (ms : List T) (g : Good t) (gm : ∀ u ∈ ms, Good u) (hn : ∀ u ∈ ms, newc u [t] ≤ 8 + 8 * (1 + lg (min 1000 (tot [t] + 1) + 1)))
    (hk : (∃ u, ms = [u]) ∨ ∃ u v, ms = [u, v] ∧ u.sz + v.sz ≤ 1000) (x0 x2 x4 x5 x6 x7 x8 : Option D) (r : Nat) (S : Store) (hr : S[r]? = some (.lst (ms.map enc))) (hst : St4 ns 0 S) :
    ∃ (u : T) (y8 : Option D) (S' : Store), (sSeq (sIf (mNotT (mTru (mCall (Fs m 36) (mCons (mVar 9) (mCons (mFn fLst (mCons (mVar 3) mNil)) mNil)))))
    (sRet (mC (.bl false)))
    sNil)
    (sSeq (sSet 8 (mFn fLst mNil))
    (sSeq (sIf (mBl (mOp eqD (mFn lenD (mCons (mVar 9) mNil)) (mC (.int 2))))
    (sSet 8 (mFn fLst (mCons (mCallP (Fs m 25) (mCons (mOp ixD (mVar 9) (mC (.int 1))) (mCons (mOp ixD (mVar 9) (mC (.int 0))) mNil))) mNil)))
    sNil)
    (sSeq (sIf (mNotT (mTru (mCall (Fs m 36) (mCons (mVar 8) (mCons (mVar 9) mNil)))))
    (sRet (mC (.bl false)))
    sNil)
    (sSet 3 (mOp ixD (mOp addD (mVar 8) (mVar 9)) (mC (.int 0)))))))) [x0, some (.ref 0), x2, some (enc t), x4, x5, x6, x7, x8, some (.ref r)] S = .nx [x0, some (.ref 0), x2, some (enc u), x4, x5, x6, x7, y8, some (.ref r)] S' ∧ Good u ∧ St4 ns 0 S' := by
  obtain ⟨G1, c1⟩ := cheap_ok (n := m) (by omega) ms [t] r S.length (S ++ [.lst [enc t]]) (app_at hr) (app_new _ _) gm (by intro u hu; rw [List.mem_singleton] at hu; rw [hu]; exact g) (by rcases hk with ⟨u, rfl⟩ | ⟨u, v, rfl, _⟩ <;> simp) (by simp) hn
  rw [sSeq_nx (E' := [x0, some (.ref 0), x2, some (enc t), x4, x5, x6, x7, x8, some (.ref r)]) (S' := S ++ [.lst [enc t]] ++ G1) (by rw [notC (mCons_ok rfl (mCons_ok (mFn_ok (mCons_ok rfl rfl) (fLst1 _ S)) rfl)) c1]; rfl)]
  have hr1 : (S ++ [.lst [enc t]] ++ G1)[r]? = some (.lst (ms.map enc)) := app_at (app_at hr)
  have hst1 : St4 ns 0 (S ++ [.lst [enc t]] ++ G1) := hst.app.app
  generalize S ++ [O.lst [enc t]] ++ G1 = S1 at *
  rw [sSeq_nx (sSet_ok (mFn_ok rfl (show fLst [] S1 = some (.ref S1.length, S1 ++ [.lst []]) from rfl)))]
  simp only [List.set_cons_succ, List.set_cons_zero]
  have hr2 : (S1 ++ [O.lst []])[r]? = some (.lst (ms.map enc)) := app_at hr1
  have hst2 : St4 ns 0 (S1 ++ [O.lst []]) := hst1.app
  have hb2 : (S1 ++ [O.lst []])[S1.length]? = some (.lst (([] : List T).map enc)) := app_new _ _
  generalize S1.length = b2 at *
  generalize S1 ++ [O.lst []] = S2 at *
  rcases hk with ⟨u, rfl⟩ | ⟨u, v, rfl, huv⟩
  · rw [sSeq_nx (E' := [x0, some (.ref 0), x2, some (enc t), x4, x5, x6, x7, some (.ref b2), some (.ref r)]) (S' := S2) (by
      rw [sIf_ok (mBl_ok (mOp_ok (mFn_ok (mCons_ok rfl rfl) (lenL hr2)) rfl (eq_int _ _ _)))]; rfl)]
    obtain ⟨G2, c2⟩ := cheap_ok (n := m) (by omega) [] [u] b2 r S2 hb2 hr2 (by intro u hu; cases hu) gm (by simp) (by simp) (by intro u hu; cases hu)
    rw [sSeq_nx (E' := [x0, some (.ref 0), x2, some (enc t), x4, x5, x6, x7, some (.ref b2), some (.ref r)]) (S' := S2 ++ G2) (by rw [notC (mCons_ok rfl (mCons_ok rfl rfl)) c2]; rfl)]
    refine ⟨u, some (.ref b2), S2 ++ G2 ++ [.lst ([] ++ [enc u])], ?_, gm u (List.mem_singleton_self u), hst2.app.app⟩
    exact sSet_ok (mOp_ok (mOp_ok rfl rfl (add_lst (app_at hb2) (app_at hr2) (Nat.le_of_ble_eq_true rfl))) rfl (ixr (app_new _ _) rfl))
  · have gu := gm u (by simp)
    have gv := gm v (by simp)
    rw [sSeq_nx (E' := [x0, some (.ref 0), x2, some (enc t), x4, x5, x6, x7, some (.ref S2.length), some (.ref r)]) (S' := S2 ++ [.lst [enc (both v u)]]) (by
      rw [sIf_ok (mBl_ok (mOp_ok (mFn_ok (mCons_ok rfl rfl) (lenL hr2)) rfl (eq_int _ _ _)))]
      rw [show decide (((List.map enc [u, v]).length : Int) = 2) = true from rfl, if_pos rfl]
      exact sSet_ok (mFn_ok (mCons_ok (mCallP_ok (mCons_ok (mOp_ok rfl rfl (ixr hr2 (show atI _ 1 = some (enc v) from rfl))) (mCons_ok (mOp_ok rfl rfl (ixr hr2 (show atI _ 0 = some (enc u) from rfl))) rfl)) (c_tboth (by omega) v u gv.1 gu.1 (by omega) _)) rfl) (fLst1 _ _)))]
    have hr3 : (S2 ++ [O.lst [enc (both v u)]])[r]? = some (.lst ([u, v].map enc)) := app_at hr2
    have hb3 : (S2 ++ [O.lst [enc (both v u)]])[S2.length]? = some (.lst ([both v u].map enc)) := app_new _ _
    have hst3 : St4 ns 0 (S2 ++ [O.lst [enc (both v u)]]) := hst2.app
    have gb : Good (both v u) := ⟨even_both gv.1 gu.1, by rw [sz_both]; omega, all_both gv.2.2 gu.2.2⟩
    generalize S2.length = b3 at *
    generalize S2 ++ [O.lst [enc (both v u)]] = S3 at *
    obtain ⟨G2, c2⟩ := cheap_ok (n := m) (by omega) [both v u] [u, v] b3 r S3 hb3 hr3 (by intro w hw; rw [List.mem_singleton] at hw; rw [hw]; exact gb) gm (by simp) (by simp) (by
      intro w hw; rw [List.mem_singleton] at hw; rw [hw]
      have a := new_both gu gv
      have b : tot [u, v] = u.sz + v.sz := by simp [tot]
      have c := lg_cap huv
      rw [b]
      omega)
    rw [sSeq_nx (E' := [x0, some (.ref 0), x2, some (enc t), x4, x5, x6, x7, some (.ref b3), some (.ref r)]) (S' := S3 ++ G2) (by rw [notC (mCons_ok rfl (mCons_ok rfl rfl)) c2]; rfl)]
    refine ⟨both v u, some (.ref b3), S3 ++ G2 ++ [.lst ([enc (both v u)] ++ [enc u, enc v])], ?_, gb, hst3.app.app⟩
    exact sSet_ok (mOp_ok (mOp_ok rfl rfl (add_lst (app_at hb3) (app_at hr3) (Nat.le_of_ble_eq_true rfl))) rfl (ixr (app_new _ _) rfl))
theorem turn_ok {m : Nat} (hm : 180 ≤ m) {ns : List Int} (t : T) (g : Good t) (x0 x2 x5 x6 x7 x8 x9 : Option D) (i : Nat) (hi : i < 12) (S : Store) (hst : St4 ns 0 S) :
    ∃ (u : T) (y5 y6 y7 y8 y9 : Option D) (S' : Store), mTurn (Fs m) [x0, some (.ref 0), x2, some (enc t), some (.int i), x5, x6, x7, x8, x9] S = .nx [x0, some (.ref 0), x2, some (enc u), some (.int i), y5, y6, y7, y8, y9] S' ∧ Good u ∧ St4 ns 0 S' := by
  have gsz := g.2.1
  obtain ⟨road, S1, e1, h1, k1, st1⟩ := take_ok (n := m) (by omega) 4 (by decide) hst
  obtain ⟨at_, S2, e2, h2, k2, st2⟩ := take_ok (n := m) (by omega) ((t.sz : Int) + 1) (by omega) st1
  obtain ⟨k, rfl⟩ := Int.eq_ofNat_of_zero_le h2.1
  have hk : k ≤ t.sz := by omega
  unfold mTurn
  rw [sSeq_nx (sSet_ok (mCall_ok (mCons_ok rfl (mCons_ok rfl rfl)) e1))]
  rw [sSeq_nx (sSet_ok (mCallP_ok (mCons_ok rfl rfl) (c_lcount (n := m) (by omega) t S1)))]
  rw [sSeq_nx (sSet_ok (mCall_ok (mCons_ok rfl (mCons_ok (mOp_ok rfl rfl (add_int _ _ _)) rfl)) e2))]
  simp only [List.set_cons_succ, List.set_cons_zero]
  have ht : tot [t] = t.sz := by simp [tot]
  have cap := lg_cap gsz
  have key : ∃ (ms : List T), (∀ u ∈ ms, Good u) ∧ (∀ u ∈ ms, newc u [t] ≤ 8 + 8 * (1 + lg (min 1000 (tot [t] + 1) + 1))) ∧ ((∃ u, ms = [u]) ∨ ∃ u v, ms = [u, v] ∧ u.sz + v.sz ≤ 1000) ∧
      (sIf (mAndT (mBl (mOp eqD (mVar 5) (mC (.int 0)))) (mBl (mOp ltD (mVar 6) (mC (.int 1000)))))
    (sSet 9 (mFn fLst (mCons (mCallP (Fs m 22) (mCons (mVar 3) (mCons (mVar 7) (mCons (mOp addD (mC (.int 5000)) (mVar 4)) mNil)))) mNil)))
    (sIf (mAndT (mBl (mOp eqD (mVar 5) (mC (.int 1)))) (mBl (mOp ltD (mVar 7) (mVar 6))))
    (sSet 9 (mFn fLst (mCons (mCallP (Fs m 23) (mCons (mVar 3) (mCons (mVar 7) mNil))) mNil)))
    (sSet 9 (mFn listD (mCons (mCallP (Fs m 24) (mCons (mVar 3) (mCons (mVar 7) mNil))) mNil))))) [x0, some (.ref 0), x2, some (enc t), some (.int i), some (.int road), some (.int t.sz), some (.int k), x8, x9] S2 = .nx [x0, some (.ref 0), x2, some (enc t), some (.int i), some (.int road), some (.int t.sz), some (.int k), x8, some (.ref S2.length)] (S2 ++ [.lst (ms.map enc)]) := by
    have u1 : mBl (mOp eqD (mVar 5) (mC (.int 0))) [x0, some (.ref 0), x2, some (enc t), some (.int i), some (.int road), some (.int t.sz), some (.int k), x8, x9] S2 = .ok (decide (road = 0)) S2 := mBl_ok (mOp_ok rfl rfl (eq_int _ _ _))
    have u2 : mBl (mOp ltD (mVar 6) (mC (.int 1000))) [x0, some (.ref 0), x2, some (enc t), some (.int i), some (.int road), some (.int t.sz), some (.int k), x8, x9] S2 = .ok (decide ((t.sz : Int) < 1000)) S2 := mBl_ok (mOp_ok rfl rfl (lt_int _ _ _))
    have u3 : mBl (mOp eqD (mVar 5) (mC (.int 1))) [x0, some (.ref 0), x2, some (enc t), some (.int i), some (.int road), some (.int t.sz), some (.int k), x8, x9] S2 = .ok (decide (road = 1)) S2 := mBl_ok (mOp_ok rfl rfl (eq_int _ _ _))
    have u4 : mBl (mOp ltD (mVar 7) (mVar 6)) [x0, some (.ref 0), x2, some (enc t), some (.int i), some (.int road), some (.int t.sz), some (.int k), x8, x9] S2 = .ok (decide ((k : Int) < t.sz)) S2 := mBl_ok (mOp_ok rfl rfl (lt_int _ _ _))
    have v1 : mAndT (mBl (mOp eqD (mVar 5) (mC (.int 0)))) (mBl (mOp ltD (mVar 6) (mC (.int 1000)))) [x0, some (.ref 0), x2, some (enc t), some (.int i), some (.int road), some (.int t.sz), some (.int k), x8, x9] S2 = .ok (decide (road = 0) && decide ((t.sz : Int) < 1000)) S2 := by
      cases hd : decide (road = 0) with
      | true => rw [hd] at u1; rw [mAndT_t u1, u2, Bool.true_and]
      | false => rw [hd] at u1; rw [mAndT_f u1, Bool.false_and]
    have v2 : mAndT (mBl (mOp eqD (mVar 5) (mC (.int 1)))) (mBl (mOp ltD (mVar 7) (mVar 6))) [x0, some (.ref 0), x2, some (enc t), some (.int i), some (.int road), some (.int t.sz), some (.int k), x8, x9] S2 = .ok (decide (road = 1) && decide ((k : Int) < t.sz)) S2 := by
      cases hd : decide (road = 1) with
      | true => rw [hd] at u3; rw [mAndT_t u3, u4, Bool.true_and]
      | false => rw [hd] at u3; rw [mAndT_f u3, Bool.false_and]
    rw [sIf_ok v1]
    cases hA : (decide (road = 0) && decide ((t.sz : Int) < 1000)) with
    | true =>
      rw [Bool.and_eq_true, decide_eq_true_eq, decide_eq_true_eq] at hA
      have hs : t.sz < 1000 := by omega
      have hx : Qi (5000 + (i : Int)) := ⟨by omega, by omega⟩
      refine ⟨[more t k (5000 + (i : Int))], ?_, ?_, .inl ⟨_, rfl⟩, ?_⟩
      · intro u hu; rw [List.mem_singleton] at hu; rw [hu]; exact good_more g hx hs
      · intro u hu; rw [List.mem_singleton] at hu; rw [hu, ht]
        have := new_more g k (5000 + (i : Int))
        omega
      · rw [if_pos rfl]
        exact sSet_ok (mFn_ok (mCons_ok (mCallP_ok (mCons_ok rfl (mCons_ok rfl (mCons_ok (mOp_ok rfl rfl (add_int _ _ _)) rfl))) (c_put (by omega) t k (5000 + (i : Int)) g.1 hs hk S2)) rfl) (fLst1 _ _))
    | false =>
      rw [if_neg (by decide), sIf_ok v2]
      cases hB : (decide (road = 1) && decide ((k : Int) < t.sz)) with
      | true =>
        rw [Bool.and_eq_true, decide_eq_true_eq, decide_eq_true_eq] at hB
        have hs : k < t.sz := by omega
        refine ⟨[less t k], ?_, ?_, .inl ⟨_, rfl⟩, ?_⟩
        · intro u hu; rw [List.mem_singleton] at hu; rw [hu]; exact good_less g hs
        · intro u hu; rw [List.mem_singleton] at hu; rw [hu, ht]
          have := new_less g k
          omega
        · rw [if_pos rfl]
          exact sSet_ok (mFn_ok (mCons_ok (mCallP_ok (mCons_ok rfl (mCons_ok rfl rfl)) (c_out (by omega) t k g.1 gsz hs S2)) rfl) (fLst1 _ _))
      | false =>
        rw [if_neg (by decide)]
        have gc := good_cut g hk
        have sc := sz_cut t k hk
        have nc := new_cut g hk
        refine ⟨[(cut t k).1, (cut t k).2], ?_, ?_, .inr ⟨_, _, rfl, by omega⟩, ?_⟩
        · intro u hu
          simp only [List.mem_cons, List.mem_nil_iff, or_false] at hu
          rcases hu with rfl | rfl
          · exact gc.1
          · exact gc.2
        · intro u hu
          rw [ht]
          simp only [List.mem_cons, List.mem_nil_iff, or_false] at hu
          rcases hu with rfl | rfl
          · omega
          · omega
        · exact sSet_ok (mFn_ok (mCons_ok (mCallP_ok (mCons_ok rfl (mCons_ok rfl rfl)) (c_parted (by omega) t k g.1 gsz hk S2)) rfl) rfl)
  obtain ⟨ms, gm, hn, hk2, e3⟩ := key
  rw [sSeq_nx e3]
  obtain ⟨u, y8, S', e4, gu, st4⟩ := turn_end hm t ms g gm hn hk2 x0 x2 (some (.int i)) (some (.int road)) (some (.int t.sz)) (some (.int k)) x8 S2.length (S2 ++ [.lst (ms.map enc)]) (app_new _ _) st2.app
  exact ⟨u, _, _, _, y8, _, S', e4, gu, st4⟩
theorem range_q {k : Nat} (hk : k ≤ 1000) : ∀ x ∈ upto k, Qi x := by
  intro x hx
  obtain ⟨i, hi, rfl⟩ := List.mem_map.mp hx
  have := List.mem_range.mp hi
  exact ⟨by omega, by omega⟩
theorem law_true : ∀ ns : List Int, ns.length ≤ 63 → (∀ z ∈ ns, Builtin.Int.intBits z ≤ 1048576) → ∃ S, runF 1 N_law.length (m_law (Fs 200)) [.scr ns] [] = .ok (.bl true) S := by
  intro ns _ _
  obtain ⟨m, hm, hm'⟩ : ∃ m, m = 200 ∧ 180 ≤ m := ⟨200, rfl, by decide⟩
  rw [← hm]
  have st0 : St4 ns 0 [.lst [.scr ns, .int 0, .int 0, .int 68]] := ⟨0, 0, 68, rfl, by decide, by decide⟩
  obtain ⟨r1, S1, e1, h1, _, st1⟩ := take_ok (n := m) (by omega) 61 (by decide) st0
  obtain ⟨r2, S2, e2, h2, _, st2⟩ := take_ok (n := m) (by omega) 4 (by decide) st1
  -- how many
  have hmany : ∃ (many : Nat) (S3 : Store), many ≤ 1000 ∧ St4 ns 0 S3 ∧ (sIf (mBl (mOp eqD (mCall (Fs m 29) (mCons (mVar 1) (mCons (mC (.int 4)) mNil))) (mC (.int 0))))
    (sSet 2 (mOp addD (mC (.int 500)) (mCall (Fs m 29) (mCons (mVar 1) (mCons (mC (.int 500)) mNil)))))
    sNil) [some (.scr ns), some (.ref 0), some (.int r1), none, none, none, none, none, none, none] S1 = .nx [some (.scr ns), some (.ref 0), some (.int many), none, none, none, none, none, none, none] S3 := by
    have u1 : mBl (mOp eqD (mCall (Fs m 29) (mCons (mVar 1) (mCons (mC (.int 4)) mNil))) (mC (.int 0))) [some (.scr ns), some (.ref 0), some (.int r1), none, none, none, none, none, none, none] S1 = .ok (decide (r2 = 0)) S2 :=
      mBl_ok (mOp_ok (mCall_ok (mCons_ok rfl (mCons_ok rfl rfl)) e2) rfl (eq_int _ _ _))
    by_cases hr : r2 = 0
    · obtain ⟨r3, S3, e3, h3, _, st3⟩ := take_ok (n := m) (by omega) 500 (by decide) st2
      obtain ⟨k, rfl⟩ := Int.eq_ofNat_of_zero_le h3.1
      refine ⟨500 + k, S3, by omega, st3, ?_⟩
      rw [sIf_ok u1, if_pos (decide_eq_true hr)]
      rw [show ((500 + k : Nat) : Int) = 500 + (k : Int) by omega]
      exact sSet_ok (mOp_ok rfl (mCall_ok (mCons_ok rfl (mCons_ok rfl rfl)) e3) (add_int _ _ _))
    · obtain ⟨k, rfl⟩ := Int.eq_ofNat_of_zero_le h1.1
      refine ⟨k, S2, by omega, st2, ?_⟩
      rw [sIf_ok u1, if_neg (by rw [decide_eq_false hr]; decide)]
      rfl
  obtain ⟨many, S3, hmany, st3, e3⟩ := hmany
  -- the first tie
  have lx : (upto many).length = many := by rw [upto, List.length_map, List.length_range]
  have hl : lg (many + 1) ≤ 26 := by
    have a := lg_mono 1001 (many + 1) (by omega)
    have c : lg 1001 ≤ 26 := by
      repeat (rw [lg]; simp)
    omega
  obtain ⟨ta, G4, e4, va, sa, aa⟩ := tied_ok (P := Qi) (n := m) (by omega) (upto many) S3.length (S3 ++ [.lst ((upto many).map .int)]) (by omega) (range_q hmany) (app_new _ _)
  have st4 : St4 ns 0 (S3 ++ [.lst ((upto many).map .int)] ++ G4) := st3.app.app
  generalize hS4 : S3 ++ [O.lst ((upto many).map .int)] ++ G4 = S4 at *
  have st5 : St4 ns 0 (S4 ++ [.lst ((upto many).map .int)]) := st4.app
  have pos4 : 0 < S4.length := let ⟨_, _, _, h, _⟩ := st4; at_lt h
  obtain ⟨tb, S5, e5, ⟨vb, sb, ab⟩, _, st6⟩ := made_ok (P := Qi) (ns := ns) (st := 0) _ m (upto many) S4.length (S4 ++ [.lst ((upto many).map .int)]) (Nat.le_refl _) (by rw [lx]; omega) (by omega) (range_q hmany) (app_new _ _) (by omega) st5
  obtain ⟨r4, S6, e6, h6, k6, st7⟩ := take_ok (n := m) (by omega) 2 (by decide) (st6.app (G := [.lst [enc ta, enc tb]]))
  have pos5 : 0 < S5.length := let ⟨_, _, _, h, _⟩ := st6; at_lt h
  have hL := k6 S5.length _ (by omega) (app_new S5 (.lst [enc ta, enc tb]))
  have hpick : ∃ t, Good t ∧ ixD (.ref S5.length) (.int r4) S6 = some (enc t, S6) := by
    have : r4 = 0 ∨ r4 = 1 := by omega
    rcases this with rfl | rfl
    · exact ⟨ta, ⟨va, by omega, aa⟩, ixr hL rfl⟩
    · exact ⟨tb, ⟨vb, by omega, ab⟩, ixr hL rfl⟩
  obtain ⟨t, gt, e7⟩ := hpick
  have e8 : mOp ixD (mFn fLst (mCons (mCall (Fs m 21) (mCons (mLrg (mCons (mVar 2) mNil)) mNil)) (mCons (mCall (Fs m 32) (mCons (mVar 1) (mCons (mLrg (mCons (mVar 2) mNil)) mNil))) mNil))) (mCall (Fs m 29) (mCons (mVar 1) (mCons (mC (.int 2)) mNil))) [some (.scr ns), some (.ref 0), some (.int many), none, none, none, none, none, none, none] S3 = .ok (enc t) S6 :=
    mOp_ok (mFn_ok (mCons_ok (mCall_ok (mCons_ok (mLrg_ok (mCons_ok rfl rfl) hmany) rfl) e4) (mCons_ok (mCall_ok (mCons_ok rfl (mCons_ok (mLrg_ok (mCons_ok rfl rfl) hmany) rfl)) e5) rfl)) (show fLst [enc ta, enc tb] S5 = some (.ref S5.length, S5 ++ [.lst [enc ta, enc tb]]) from rfl)) (mCall_ok (mCons_ok rfl (mCons_ok rfl rfl)) e6) e7
  -- the turns
  have hit : ∃ (L : Nat) (S7 : Store), L ≤ 12 ∧ St4 ns 0 S7 ∧ iRng1 (mCons (mOp ixD (mFn fLst (mCons (mC (.int 12)) (mCons (mC (.int 3)) mNil))) (mFn intD (mCons (mOp gtD (mVar 2) (mC (.int 60))) mNil))) mNil) [some (.scr ns), some (.ref 0), some (.int many), some (enc t), none, none, none, none, none, none] S6 = .ok (.rng 0 L) S7 := by
    have h12 : (S6 ++ [O.lst [.int 12, .int 3]])[S6.length]? = some (.lst [.int 12, .int 3]) := app_new _ _
    have a : ∃ L : Nat, L ≤ 12 ∧ mOp ixD (mFn fLst (mCons (mC (.int 12)) (mCons (mC (.int 3)) mNil))) (mFn intD (mCons (mOp gtD (mVar 2) (mC (.int 60))) mNil)) [some (.scr ns), some (.ref 0), some (.int many), some (enc t), none, none, none, none, none, none] S6 = .ok (.int L) (S6 ++ [.lst [.int 12, .int 3]]) := by
      cases hb : decide ((60 : Int) < many) with
      | true => exact ⟨3, by decide, mOp_ok (mFn_ok rfl rfl) (mFn_ok (mCons_ok (mOp_ok rfl rfl (by rw [gt_int, hb])) rfl) rfl) (ixr h12 rfl)⟩
      | false => exact ⟨12, by decide, mOp_ok (mFn_ok rfl rfl) (mFn_ok (mCons_ok (mOp_ok rfl rfl (by rw [gt_int, hb])) rfl) rfl) (ixr h12 rfl)⟩
    obtain ⟨L, hL, a⟩ := a
    refine ⟨L, S6 ++ [.lst [.int 12, .int 3]], hL, st7.app, ?_⟩
    unfold L3.iRng1
    rw [mCons_ok a rfl, then_ok]
    simp only
    rw [if_pos (by omega), Int.toNat_natCast]
  obtain ⟨L, S7, hL, st8, e9⟩ := hit
  obtain ⟨E', S', lp, u, y4, y5, y6, y7, y8, y9, rfl, gu, st9⟩ := fl_ok (I := .rng 0 L) (g := gN 4) (b := mTurn (Fs m)) L
    (fun i E S => ∃ (t : T) (y4 y5 y6 y7 y8 y9 : Option D), E = [some (.scr ns), some (.ref 0), some (.int many), some (enc t), y4, y5, y6, y7, y8, y9] ∧ Good t ∧ St4 ns 0 S)
    (by
      rintro E S ⟨t, y4, y5, y6, y7, y8, y9, rfl, _, _⟩
      simp [Wk.at])
    (by
      rintro i E S hi ⟨t, y4, y5, y6, y7, y8, y9, rfl, gt, st⟩
      obtain ⟨u, z5, z6, z7, z8, z9, S', e, gu, st'⟩ := turn_ok hm' t gt (some (.scr ns)) (some (.int many)) y5 y6 y7 y8 y9 i (by omega) S st
      exact ⟨.int i, _, _, _, S', by simp [Wk.at, hi], rfl, e, u, _, z5, z6, z7, z8, z9, rfl, gu, st'⟩)
    L 20000000 0 [some (.scr ns), some (.ref 0), some (.int many), some (enc t), none, none, none, none, none, none] S7 (by omega) (by omega) ⟨t, none, none, none, none, none, none, rfl, gt, st8⟩
  refine ⟨S', ?_⟩
  refine runF_ok (r := .ret (.bl true) S') rfl ?_
  rw [show List.map some [D.scr ns] ++ List.replicate (N_law.length - 1) none = [some (.scr ns), none, none, none, none, none, none, none, none, none] from rfl]
  unfold m_law
  rw [sSeq_nx (sSet_ok (mFn_ok (mCons_ok rfl (mCons_ok rfl (mCons_ok rfl (mCons_ok rfl rfl)))) (show fLst [.scr ns, .int 0, .int 0, .int 68] [] = some (.ref 0, [.lst [.scr ns, .int 0, .int 0, .int 68]]) from rfl)))]
  rw [sSeq_nx (sSet_ok (mCall_ok (mCons_ok rfl (mCons_ok rfl rfl)) e1))]
  simp only [List.set_cons_succ, List.set_cons_zero]
  rw [sSeq_nx e3]
  rw [sSeq_nx (sSet_ok e8)]
  simp only [List.set_cons_succ, List.set_cons_zero]
  unfold mTurn at lp
  rw [sSeq_nx (sFor_ok e9 lp)]
  exact sRet_ok rfl
end K68

set_option Elab.async false
set_option linter.all false
set_option maxRecDepth 100000
set_option maxHeartbeats 4000000
namespace K68
open PySem PySem.Spec PyProof.Rows L2 L3
theorem base_mk {K : PySem.W.Frag} {h : Heap} {mg : Str → Option Value} (X : K.In h) (G : h.Ns mainGlobals mg)
    {f0 : Addr} {oc0 kV0 dc0 pm0 cd0 ct0 : Value} {od0 an0 : Option Addr} {sl0 : Array (Option Value)}
    {f1 : Addr} {oc1 kV1 dc1 pm1 cd1 ct1 : Value} {od1 an1 : Option Addr} {sl1 : Array (Option Value)}
    {f2 : Addr} {oc2 kV2 dc2 pm2 cd2 ct2 : Value} {od2 an2 : Option Addr} {sl2 : Array (Option Value)}
    {f3 : Addr} {oc3 kV3 dc3 pm3 cd3 ct3 : Value} {od3 an3 : Option Addr} {sl3 : Array (Option Value)}
    {f4 : Addr} {oc4 kV4 dc4 pm4 cd4 ct4 : Value} {od4 an4 : Option Addr} {sl4 : Array (Option Value)}
    {f5 : Addr} {oc5 kV5 dc5 pm5 cd5 ct5 : Value} {od5 an5 : Option Addr} {sl5 : Array (Option Value)}
    {f6 : Addr} {oc6 kV6 dc6 pm6 cd6 ct6 : Value} {od6 an6 : Option Addr} {sl6 : Array (Option Value)}
    {f7 : Addr} {oc7 kV7 dc7 pm7 cd7 ct7 : Value} {od7 an7 : Option Addr} {sl7 : Array (Option Value)}
    {f8 : Addr} {oc8 kV8 dc8 pm8 cd8 ct8 : Value} {od8 an8 : Option Addr} {sl8 : Array (Option Value)}
    {f9 : Addr} {oc9 kV9 dc9 pm9 cd9 ct9 : Value} {od9 an9 : Option Addr} {sl9 : Array (Option Value)}
    {f10 : Addr} {oc10 kV10 dc10 pm10 cd10 ct10 : Value} {od10 an10 : Option Addr} {sl10 : Array (Option Value)}
    {f11 : Addr} {oc11 kV11 dc11 pm11 cd11 ct11 : Value} {od11 an11 : Option Addr} {sl11 : Array (Option Value)}
    {f12 : Addr} {oc12 kV12 dc12 pm12 cd12 ct12 : Value} {od12 an12 : Option Addr} {sl12 : Array (Option Value)}
    {f13 : Addr} {oc13 kV13 dc13 pm13 cd13 ct13 : Value} {od13 an13 : Option Addr} {sl13 : Array (Option Value)}
    {f14 : Addr} {oc14 kV14 dc14 pm14 cd14 ct14 : Value} {od14 an14 : Option Addr} {sl14 : Array (Option Value)}
    {f15 : Addr} {oc15 kV15 dc15 pm15 cd15 ct15 : Value} {od15 an15 : Option Addr} {sl15 : Array (Option Value)}
    {f16 : Addr} {oc16 kV16 dc16 pm16 cd16 ct16 : Value} {od16 an16 : Option Addr} {sl16 : Array (Option Value)}
    {f17 : Addr} {oc17 kV17 dc17 pm17 cd17 ct17 : Value} {od17 an17 : Option Addr} {sl17 : Array (Option Value)}
    {f18 : Addr} {oc18 kV18 dc18 pm18 cd18 ct18 : Value} {od18 an18 : Option Addr} {sl18 : Array (Option Value)}
    {f19 : Addr} {oc19 kV19 dc19 pm19 cd19 ct19 : Value} {od19 an19 : Option Addr} {sl19 : Array (Option Value)}
    {f20 : Addr} {oc20 kV20 dc20 pm20 cd20 ct20 : Value} {od20 an20 : Option Addr} {sl20 : Array (Option Value)}
    {f21 : Addr} {oc21 kV21 dc21 pm21 cd21 ct21 : Value} {od21 an21 : Option Addr} {sl21 : Array (Option Value)}
    {f22 : Addr} {oc22 kV22 dc22 pm22 cd22 ct22 : Value} {od22 an22 : Option Addr} {sl22 : Array (Option Value)}
    {f23 : Addr} {oc23 kV23 dc23 pm23 cd23 ct23 : Value} {od23 an23 : Option Addr} {sl23 : Array (Option Value)}
    {f24 : Addr} {oc24 kV24 dc24 pm24 cd24 ct24 : Value} {od24 an24 : Option Addr} {sl24 : Array (Option Value)}
    {f25 : Addr} {oc25 kV25 dc25 pm25 cd25 ct25 : Value} {od25 an25 : Option Addr} {sl25 : Array (Option Value)}
    {f26 : Addr} {oc26 kV26 dc26 pm26 cd26 ct26 : Value} {od26 an26 : Option Addr} {sl26 : Array (Option Value)}
    {f27 : Addr} {oc27 kV27 dc27 pm27 cd27 ct27 : Value} {od27 an27 : Option Addr} {sl27 : Array (Option Value)}
    {f28 : Addr} {oc28 kV28 dc28 pm28 cd28 ct28 : Value} {od28 an28 : Option Addr} {sl28 : Array (Option Value)}
    {f29 : Addr} {oc29 kV29 dc29 pm29 cd29 ct29 : Value} {od29 an29 : Option Addr} {sl29 : Array (Option Value)}
    {f30 : Addr} {oc30 kV30 dc30 pm30 cd30 ct30 : Value} {od30 an30 : Option Addr} {sl30 : Array (Option Value)}
    {f31 : Addr} {oc31 kV31 dc31 pm31 cd31 ct31 : Value} {od31 an31 : Option Addr} {sl31 : Array (Option Value)}
    {f32 : Addr} {oc32 kV32 dc32 pm32 cd32 ct32 : Value} {od32 an32 : Option Addr} {sl32 : Array (Option Value)}
    {f33 : Addr} {oc33 kV33 dc33 pm33 cd33 ct33 : Value} {od33 an33 : Option Addr} {sl33 : Array (Option Value)}
    {f34 : Addr} {oc34 kV34 dc34 pm34 cd34 ct34 : Value} {od34 an34 : Option Addr} {sl34 : Array (Option Value)}
    {f35 : Addr} {oc35 kV35 dc35 pm35 cd35 ct35 : Value} {od35 an35 : Option Addr} {sl35 : Array (Option Value)}
    {f36 : Addr} {oc36 kV36 dc36 pm36 cd36 ct36 : Value} {od36 an36 : Option Addr} {sl36 : Array (Option Value)}
    {f37 : Addr} {oc37 kV37 dc37 pm37 cd37 ct37 : Value} {od37 an37 : Option Addr} {sl37 : Array (Option Value)}
    {t0 : Tok}
    {t1 : Tok}
    {t2 : Tok}
    (a0 : PySem.W.nsIn K mainGlobals "count_of" = some (some (.ref f0)))
    (l0 : K.lookup f0 = some ⟨oc0, od0, .func (PySem.W.fnOf "count_of" "count_of" (defArgs st_count_of) (defBody st_count_of) (defScope st_count_of) .none kV0 dc0 pm0 an0 cd0 ct0), sl0⟩)
    (c0 : PySem.W.codeIn K cd0 "count_of" = true) (k0 : PySem.W.keepIn K (.ref f0) = true)
    (a1 : PySem.W.nsIn K mainGlobals "tie_over" = some (some (.ref f1)))
    (l1 : K.lookup f1 = some ⟨oc1, od1, .func (PySem.W.fnOf "tie_over" "tie_over" (defArgs st_tie_over) (defBody st_tie_over) (defScope st_tie_over) .none kV1 dc1 pm1 an1 cd1 ct1), sl1⟩)
    (c1 : PySem.W.codeIn K cd1 "tie_over" = true) (k1 : PySem.W.keepIn K (.ref f1) = true)
    (a2 : PySem.W.nsIn K mainGlobals "are_even" = some (some (.ref f2)))
    (l2 : K.lookup f2 = some ⟨oc2, od2, .func (PySem.W.fnOf "are_even" "are_even" (defArgs st_are_even) (defBody st_are_even) (defScope st_are_even) .none kV2 dc2 pm2 an2 cd2 ct2), sl2⟩)
    (c2 : PySem.W.codeIn K cd2 "are_even" = true) (k2 : PySem.W.keepIn K (.ref f2) = true)
    (a3 : PySem.W.nsIn K mainGlobals "is_even_top" = some (some (.ref f3)))
    (l3 : K.lookup f3 = some ⟨oc3, od3, .func (PySem.W.fnOf "is_even_top" "is_even_top" (defArgs st_is_even_top) (defBody st_is_even_top) (defScope st_is_even_top) .none kV3 dc3 pm3 an3 cd3 ct3), sl3⟩)
    (c3 : PySem.W.codeIn K cd3 "is_even_top" = true) (k3 : PySem.W.keepIn K (.ref f3) = true)
    (a4 : PySem.W.nsIn K mainGlobals "by_halves" = some (some (.ref f4)))
    (l4 : K.lookup f4 = some ⟨oc4, od4, .func (PySem.W.fnOf "by_halves" "by_halves" (defArgs st_by_halves) (defBody st_by_halves) (defScope st_by_halves) .none kV4 dc4 pm4 an4 cd4 ct4), sl4⟩)
    (c4 : PySem.W.codeIn K cd4 "by_halves" = true) (k4 : PySem.W.keepIn K (.ref f4) = true)
    (a5 : PySem.W.nsIn K mainGlobals "turned_left" = some (some (.ref f5)))
    (l5 : K.lookup f5 = some ⟨oc5, od5, .func (PySem.W.fnOf "turned_left" "turned_left" (defArgs st_turned_left) (defBody st_turned_left) (defScope st_turned_left) .none kV5 dc5 pm5 an5 cd5 ct5), sl5⟩)
    (c5 : PySem.W.codeIn K cd5 "turned_left" = true) (k5 : PySem.W.keepIn K (.ref f5) = true)
    (a6 : PySem.W.nsIn K mainGlobals "turned_right" = some (some (.ref f6)))
    (l6 : K.lookup f6 = some ⟨oc6, od6, .func (PySem.W.fnOf "turned_right" "turned_right" (defArgs st_turned_right) (defBody st_turned_right) (defScope st_turned_right) .none kV6 dc6 pm6 an6 cd6 ct6), sl6⟩)
    (c6 : PySem.W.codeIn K cd6 "turned_right" = true) (k6 : PySem.W.keepIn K (.ref f6) = true)
    (a7 : PySem.W.nsIn K mainGlobals "evened" = some (some (.ref f7)))
    (l7 : K.lookup f7 = some ⟨oc7, od7, .func (PySem.W.fnOf "evened" "evened" (defArgs st_evened) (defBody st_evened) (defScope st_evened) .none kV7 dc7 pm7 an7 cd7 ct7), sl7⟩)
    (c7 : PySem.W.codeIn K cd7 "evened" = true) (k7 : PySem.W.keepIn K (.ref f7) = true)
    (a8 : PySem.W.nsIn K mainGlobals "linked" = some (some (.ref f8)))
    (l8 : K.lookup f8 = some ⟨oc8, od8, .func (PySem.W.fnOf "linked" "linked" (defArgs st_linked) (defBody st_linked) (defScope st_linked) .none kV8 dc8 pm8 an8 cd8 ct8), sl8⟩)
    (c8 : PySem.W.codeIn K cd8 "linked" = true) (k8 : PySem.W.keepIn K (.ref f8) = true)
    (a9 : PySem.W.nsIn K mainGlobals "with_more" = some (some (.ref f9)))
    (l9 : K.lookup f9 = some ⟨oc9, od9, .func (PySem.W.fnOf "with_more" "with_more" (defArgs st_with_more) (defBody st_with_more) (defScope st_with_more) .none kV9 dc9 pm9 an9 cd9 ct9), sl9⟩)
    (c9 : PySem.W.codeIn K cd9 "with_more" = true) (k9 : PySem.W.keepIn K (.ref f9) = true)
    (a10 : PySem.W.nsIn K mainGlobals "without_first" = some (some (.ref f10)))
    (l10 : K.lookup f10 = some ⟨oc10, od10, .func (PySem.W.fnOf "without_first" "without_first" (defArgs st_without_first) (defBody st_without_first) (defScope st_without_first) .none kV10 dc10 pm10 an10 cd10 ct10), sl10⟩)
    (c10 : PySem.W.codeIn K cd10 "without_first" = true) (k10 : PySem.W.keepIn K (.ref f10) = true)
    (a11 : PySem.W.nsIn K mainGlobals "one_behind" = some (some (.ref f11)))
    (l11 : K.lookup f11 = some ⟨oc11, od11, .func (PySem.W.fnOf "one_behind" "one_behind" (defArgs st_one_behind) (defBody st_one_behind) (defScope st_one_behind) .none kV11 dc11 pm11 an11 cd11 ct11), sl11⟩)
    (c11 : PySem.W.codeIn K cd11 "one_behind" = true) (k11 : PySem.W.keepIn K (.ref f11) = true)
    (a12 : PySem.W.nsIn K mainGlobals "without_item" = some (some (.ref f12)))
    (l12 : K.lookup f12 = some ⟨oc12, od12, .func (PySem.W.fnOf "without_item" "without_item" (defArgs st_without_item) (defBody st_without_item) (defScope st_without_item) .none kV12 dc12 pm12 an12 cd12 ct12), sl12⟩)
    (c12 : PySem.W.codeIn K cd12 "without_item" = true) (k12 : PySem.W.keepIn K (.ref f12) = true)
    (a13 : PySem.W.nsIn K mainGlobals "cut_at" = some (some (.ref f13)))
    (l13 : K.lookup f13 = some ⟨oc13, od13, .func (PySem.W.fnOf "cut_at" "cut_at" (defArgs st_cut_at) (defBody st_cut_at) (defScope st_cut_at) .none kV13 dc13 pm13 an13 cd13 ct13), sl13⟩)
    (c13 : PySem.W.codeIn K cd13 "cut_at" = true) (k13 : PySem.W.keepIn K (.ref f13) = true)
    (a14 : PySem.W.nsIn K mainGlobals "is_plain" = some (some (.ref f14)))
    (l14 : K.lookup f14 = some ⟨oc14, od14, .func (PySem.W.fnOf "is_plain" "is_plain" (defArgs st_is_plain) (defBody st_is_plain) (defScope st_is_plain) .none kV14 dc14 pm14 an14 cd14 ct14), sl14⟩)
    (c14 : PySem.W.codeIn K cd14 "is_plain" = true) (k14 : PySem.W.keepIn K (.ref f14) = true)
    (a15 : PySem.W.nsIn K mainGlobals "is_item" = some (some (.ref f15)))
    (l15 : K.lookup f15 = some ⟨oc15, od15, .func (PySem.W.fnOf "is_item" "is_item" (defArgs st_is_item) (defBody st_is_item) (defScope st_is_item) .none kV15 dc15 pm15 an15 cd15 ct15), sl15⟩)
    (c15 : PySem.W.codeIn K cd15 "is_item" = true) (k15 : PySem.W.keepIn K (.ref f15) = true)
    (a16 : PySem.W.nsIn K mainGlobals "told_count" = some (some (.ref f16)))
    (l16 : K.lookup f16 = some ⟨oc16, od16, .func (PySem.W.fnOf "told_count" "told_count" (defArgs st_told_count) (defBody st_told_count) (defScope st_told_count) .none kV16 dc16 pm16 an16 cd16 ct16), sl16⟩)
    (c16 : PySem.W.codeIn K cd16 "told_count" = true) (k16 : PySem.W.keepIn K (.ref f16) = true)
    (a17 : PySem.W.nsIn K mainGlobals "is_even_of" = some (some (.ref f17)))
    (l17 : K.lookup f17 = some ⟨oc17, od17, .func (PySem.W.fnOf "is_even_of" "is_even_of" (defArgs st_is_even_of) (defBody st_is_even_of) (defScope st_is_even_of) .none kV17 dc17 pm17 an17 cd17 ct17), sl17⟩)
    (c17 : PySem.W.codeIn K cd17 "is_even_of" = true) (k17 : PySem.W.keepIn K (.ref f17) = true)
    (a18 : PySem.W.nsIn K mainGlobals "is_even" = some (some (.ref f18)))
    (l18 : K.lookup f18 = some ⟨oc18, od18, .func (PySem.W.fnOf "is_even" "is_even" (defArgs st_is_even) (defBody st_is_even) (defScope st_is_even) .none kV18 dc18 pm18 an18 cd18 ct18), sl18⟩)
    (c18 : PySem.W.codeIn K cd18 "is_even" = true) (k18 : PySem.W.keepIn K (.ref f18) = true)
    (a19 : PySem.W.nsIn K mainGlobals "look_tie" = some (some (.ref f19)))
    (l19 : K.lookup f19 = some ⟨oc19, od19, .func (PySem.W.fnOf "look_tie" "look_tie" (defArgs st_look_tie) (defBody st_look_tie) (defScope st_look_tie) .none kV19 dc19 pm19 an19 cd19 ct19), sl19⟩)
    (c19 : PySem.W.codeIn K cd19 "look_tie" = true) (k19 : PySem.W.keepIn K (.ref f19) = true)
    (a20 : PySem.W.nsIn K mainGlobals "look_item" = some (some (.ref f20)))
    (l20 : K.lookup f20 = some ⟨oc20, od20, .func (PySem.W.fnOf "look_item" "look_item" (defArgs st_look_item) (defBody st_look_item) (defScope st_look_item) .none kV20 dc20 pm20 an20 cd20 ct20), sl20⟩)
    (c20 : PySem.W.codeIn K cd20 "look_item" = true) (k20 : PySem.W.keepIn K (.ref f20) = true)
    (a21 : PySem.W.nsIn K mainGlobals "tied" = some (some (.ref f21)))
    (l21 : K.lookup f21 = some ⟨oc21, od21, .func (PySem.W.fnOf "tied" "tied" (defArgs st_tied) (defBody st_tied) (defScope st_tied) .none kV21 dc21 pm21 an21 cd21 ct21), sl21⟩)
    (c21 : PySem.W.codeIn K cd21 "tied" = true) (k21 : PySem.W.keepIn K (.ref f21) = true)
    (a22 : PySem.W.nsIn K mainGlobals "put_at" = some (some (.ref f22)))
    (l22 : K.lookup f22 = some ⟨oc22, od22, .func (PySem.W.fnOf "put_at" "put_at" (defArgs st_put_at) (defBody st_put_at) (defScope st_put_at) .none kV22 dc22 pm22 an22 cd22 ct22), sl22⟩)
    (c22 : PySem.W.codeIn K cd22 "put_at" = true) (k22 : PySem.W.keepIn K (.ref f22) = true)
    (a23 : PySem.W.nsIn K mainGlobals "out_at" = some (some (.ref f23)))
    (l23 : K.lookup f23 = some ⟨oc23, od23, .func (PySem.W.fnOf "out_at" "out_at" (defArgs st_out_at) (defBody st_out_at) (defScope st_out_at) .none kV23 dc23 pm23 an23 cd23 ct23), sl23⟩)
    (c23 : PySem.W.codeIn K cd23 "out_at" = true) (k23 : PySem.W.keepIn K (.ref f23) = true)
    (a24 : PySem.W.nsIn K mainGlobals "parted" = some (some (.ref f24)))
    (l24 : K.lookup f24 = some ⟨oc24, od24, .func (PySem.W.fnOf "parted" "parted" (defArgs st_parted) (defBody st_parted) (defScope st_parted) .none kV24 dc24 pm24 an24 cd24 ct24), sl24⟩)
    (c24 : PySem.W.codeIn K cd24 "parted" = true) (k24 : PySem.W.keepIn K (.ref f24) = true)
    (a25 : PySem.W.nsIn K mainGlobals "tied_both" = some (some (.ref f25)))
    (l25 : K.lookup f25 = some ⟨oc25, od25, .func (PySem.W.fnOf "tied_both" "tied_both" (defArgs st_tied_both) (defBody st_tied_both) (defScope st_tied_both) .none kV25 dc25 pm25 an25 cd25 ct25), sl25⟩)
    (c25 : PySem.W.codeIn K cd25 "tied_both" = true) (k25 : PySem.W.keepIn K (.ref f25) = true)
    (a26 : PySem.W.nsIn K mainGlobals "steps_of" = some (some (.ref f26)))
    (l26 : K.lookup f26 = some ⟨oc26, od26, .func (PySem.W.fnOf "steps_of" "steps_of" (defArgs st_steps_of) (defBody st_steps_of) (defScope st_steps_of) .none kV26 dc26 pm26 an26 cd26 ct26), sl26⟩)
    (c26 : PySem.W.codeIn K cd26 "steps_of" = true) (k26 : PySem.W.keepIn K (.ref f26) = true)
    (a27 : PySem.W.nsIn K mainGlobals "number_tie" = some (some (.ref f27)))
    (l27 : K.lookup f27 = some ⟨oc27, od27, .func (PySem.W.fnOf "number_tie" "number_tie" (defArgs st_number_tie) (defBody st_number_tie) (defScope st_number_tie) .none kV27 dc27 pm27 an27 cd27 ct27), sl27⟩)
    (c27 : PySem.W.codeIn K cd27 "number_tie" = true) (k27 : PySem.W.keepIn K (.ref f27) = true)
    (a28 : PySem.W.nsIn K mainGlobals "fresh" = some (some (.ref f28)))
    (l28 : K.lookup f28 = some ⟨oc28, od28, .func (PySem.W.fnOf "fresh" "fresh" (defArgs st_fresh) (defBody st_fresh) (defScope st_fresh) .none kV28 dc28 pm28 an28 cd28 ct28), sl28⟩)
    (c28 : PySem.W.codeIn K cd28 "fresh" = true) (k28 : PySem.W.keepIn K (.ref f28) = true)
    (a29 : PySem.W.nsIn K mainGlobals "_law_take" = some (some (.ref f29)))
    (l29 : K.lookup f29 = some ⟨oc29, od29, .func (PySem.W.fnOf "_law_take" "_law_take" (defArgs st__law_take) (defBody st__law_take) (defScope st__law_take) .none kV29 dc29 pm29 an29 cd29 ct29), sl29⟩)
    (c29 : PySem.W.codeIn K cd29 "_law_take" = true) (k29 : PySem.W.keepIn K (.ref f29) = true)
    (a30 : PySem.W.nsIn K mainGlobals "_law_count" = some (some (.ref f30)))
    (l30 : K.lookup f30 = some ⟨oc30, od30, .func (PySem.W.fnOf "_law_count" "_law_count" (defArgs st__law_count) (defBody st__law_count) (defScope st__law_count) .none kV30 dc30 pm30 an30 cd30 ct30), sl30⟩)
    (c30 : PySem.W.codeIn K cd30 "_law_count" = true) (k30 : PySem.W.keepIn K (.ref f30) = true)
    (a31 : PySem.W.nsIn K mainGlobals "_law_over" = some (some (.ref f31)))
    (l31 : K.lookup f31 = some ⟨oc31, od31, .func (PySem.W.fnOf "_law_over" "_law_over" (defArgs st__law_over) (defBody st__law_over) (defScope st__law_over) .none kV31 dc31 pm31 an31 cd31 ct31), sl31⟩)
    (c31 : PySem.W.codeIn K cd31 "_law_over" = true) (k31 : PySem.W.keepIn K (.ref f31) = true)
    (a32 : PySem.W.nsIn K mainGlobals "_law_made" = some (some (.ref f32)))
    (l32 : K.lookup f32 = some ⟨oc32, od32, .func (PySem.W.fnOf "_law_made" "_law_made" (defArgs st__law_made) (defBody st__law_made) (defScope st__law_made) .none kV32 dc32 pm32 an32 cd32 ct32), sl32⟩)
    (c32 : PySem.W.codeIn K cd32 "_law_made" = true) (k32 : PySem.W.keepIn K (.ref f32) = true)
    (a33 : PySem.W.nsIn K mainGlobals "_law_number" = some (some (.ref f33)))
    (l33 : K.lookup f33 = some ⟨oc33, od33, .func (PySem.W.fnOf "_law_number" "_law_number" (defArgs st__law_number) (defBody st__law_number) (defScope st__law_number) .none kV33 dc33 pm33 an33 cd33 ct33), sl33⟩)
    (c33 : PySem.W.codeIn K cd33 "_law_number" = true) (k33 : PySem.W.keepIn K (.ref f33) = true)
    (a34 : PySem.W.nsIn K mainGlobals "_law_deep" = some (some (.ref f34)))
    (l34 : K.lookup f34 = some ⟨oc34, od34, .func (PySem.W.fnOf "_law_deep" "_law_deep" (defArgs st__law_deep) (defBody st__law_deep) (defScope st__law_deep) .none kV34 dc34 pm34 an34 cd34 ct34), sl34⟩)
    (c34 : PySem.W.codeIn K cd34 "_law_deep" = true) (k34 : PySem.W.keepIn K (.ref f34) = true)
    (a35 : PySem.W.nsIn K mainGlobals "_law_new" = some (some (.ref f35)))
    (l35 : K.lookup f35 = some ⟨oc35, od35, .func (PySem.W.fnOf "_law_new" "_law_new" (defArgs st__law_new) (defBody st__law_new) (defScope st__law_new) .none kV35 dc35 pm35 an35 cd35 ct35), sl35⟩)
    (c35 : PySem.W.codeIn K cd35 "_law_new" = true) (k35 : PySem.W.keepIn K (.ref f35) = true)
    (a36 : PySem.W.nsIn K mainGlobals "_law_is_cheap" = some (some (.ref f36)))
    (l36 : K.lookup f36 = some ⟨oc36, od36, .func (PySem.W.fnOf "_law_is_cheap" "_law_is_cheap" (defArgs st__law_is_cheap) (defBody st__law_is_cheap) (defScope st__law_is_cheap) .none kV36 dc36 pm36 an36 cd36 ct36), sl36⟩)
    (c36 : PySem.W.codeIn K cd36 "_law_is_cheap" = true) (k36 : PySem.W.keepIn K (.ref f36) = true)
    (a37 : PySem.W.nsIn K mainGlobals "law" = some (some (.ref f37)))
    (l37 : K.lookup f37 = some ⟨oc37, od37, .func (PySem.W.fnOf "law" "law" (defArgs st_law) (defBody st_law) (defScope st_law) .none kV37 dc37 pm37 an37 cd37 ct37), sl37⟩)
    (c37 : PySem.W.codeIn K cd37 "law" = true) (k37 : PySem.W.keepIn K (.ref f37) = true)
    (z0 : PySem.W.nsIn K mainGlobals "all" = some none)
    (z1 : PySem.W.nsIn K mainGlobals "bool" = some none)
    (z2 : PySem.W.nsIn K mainGlobals "int" = some none)
    (z3 : PySem.W.nsIn K mainGlobals "isinstance" = some none)
    (z4 : PySem.W.nsIn K mainGlobals "len" = some none)
    (z5 : PySem.W.nsIn K mainGlobals "list" = some none)
    (z6 : PySem.W.nsIn K mainGlobals "max" = some none)
    (z7 : PySem.W.nsIn K mainGlobals "min" = some none)
    (z8 : PySem.W.nsIn K mainGlobals "range" = some none)
    (z9 : PySem.W.nsIn K mainGlobals "repr" = some none)
    (z10 : PySem.W.nsIn K mainGlobals "str" = some none)
    (z11 : PySem.W.nsIn K mainGlobals "sum" = some none)
    (z12 : PySem.W.nsIn K mainGlobals "tuple" = some none)
    (q0 : PySem.W.nsIn K mainGlobals "HEAVIER" = some (some (.int 3 t0)))
    (q1 : PySem.W.nsIn K mainGlobals "TIED" = some (some (.int 1000 t1)))
    (q2 : PySem.W.nsIn K mainGlobals "WIDEST" = some (some (.int 8 t2))) : Base K mg where
    f_count_of := def_mk X G a0 l0 c0 k0 fun _ _ _ _ _ _ us hl => match us, hl with | [_], _ => rfl
    f_tie_over := def_mk X G a1 l1 c1 k1 fun _ _ _ _ _ _ us hl => match us, hl with | [_, _, _], _ => rfl
    f_are_even := def_mk X G a2 l2 c2 k2 fun _ _ _ _ _ _ us hl => match us, hl with | [_, _], _ => rfl
    f_is_even_top := def_mk X G a3 l3 c3 k3 fun _ _ _ _ _ _ us hl => match us, hl with | [_, _], _ => rfl
    f_by_halves := def_mk X G a4 l4 c4 k4 fun _ _ _ _ _ _ us hl => match us, hl with | [_], _ => rfl
    f_turned_left := def_mk X G a5 l5 c5 k5 fun _ _ _ _ _ _ us hl => match us, hl with | [_, _, _], _ => rfl
    f_turned_right := def_mk X G a6 l6 c6 k6 fun _ _ _ _ _ _ us hl => match us, hl with | [_, _, _], _ => rfl
    f_evened := def_mk X G a7 l7 c7 k7 fun _ _ _ _ _ _ us hl => match us, hl with | [_, _, _], _ => rfl
    f_linked := def_mk X G a8 l8 c8 k8 fun _ _ _ _ _ _ us hl => match us, hl with | [_, _, _], _ => rfl
    f_with_more := def_mk X G a9 l9 c9 k9 fun _ _ _ _ _ _ us hl => match us, hl with | [_, _, _], _ => rfl
    f_without_first := def_mk X G a10 l10 c10 k10 fun _ _ _ _ _ _ us hl => match us, hl with | [_], _ => rfl
    f_one_behind := def_mk X G a11 l11 c11 k11 fun _ _ _ _ _ _ us hl => match us, hl with | [_, _], _ => rfl
    f_without_item := def_mk X G a12 l12 c12 k12 fun _ _ _ _ _ _ us hl => match us, hl with | [_, _], _ => rfl
    f_cut_at := def_mk X G a13 l13 c13 k13 fun _ _ _ _ _ _ us hl => match us, hl with | [_, _], _ => rfl
    f_is_plain := def_mk X G a14 l14 c14 k14 fun _ _ _ _ _ _ us hl => match us, hl with | [_], _ => rfl
    f_is_item := def_mk X G a15 l15 c15 k15 fun _ _ _ _ _ _ us hl => match us, hl with | [_], _ => rfl
    f_told_count := def_mk X G a16 l16 c16 k16 fun _ _ _ _ _ _ us hl => match us, hl with | [_], _ => rfl
    f_is_even_of := def_mk X G a17 l17 c17 k17 fun _ _ _ _ _ _ us hl => match us, hl with | [_, _], _ => rfl
    f_is_even := def_mk X G a18 l18 c18 k18 fun _ _ _ _ _ _ us hl => match us, hl with | [_], _ => rfl
    f_look_tie := def_mk X G a19 l19 c19 k19 fun _ _ _ _ _ _ us hl => match us, hl with | [_], _ => rfl
    f_look_item := def_mk X G a20 l20 c20 k20 fun _ _ _ _ _ _ us hl => match us, hl with | [_, _, _], _ => rfl
    f_tied := def_mk X G a21 l21 c21 k21 fun _ _ _ _ _ _ us hl => match us, hl with | [_], _ => rfl
    f_put_at := def_mk X G a22 l22 c22 k22 fun _ _ _ _ _ _ us hl => match us, hl with | [_, _, _], _ => rfl
    f_out_at := def_mk X G a23 l23 c23 k23 fun _ _ _ _ _ _ us hl => match us, hl with | [_, _], _ => rfl
    f_parted := def_mk X G a24 l24 c24 k24 fun _ _ _ _ _ _ us hl => match us, hl with | [_, _], _ => rfl
    f_tied_both := def_mk X G a25 l25 c25 k25 fun _ _ _ _ _ _ us hl => match us, hl with | [_, _], _ => rfl
    f_steps_of := def_mk X G a26 l26 c26 k26 fun _ _ _ _ _ _ us hl => match us, hl with | [_], _ => rfl
    f_number_tie := def_mk X G a27 l27 c27 k27 fun _ _ _ _ _ _ us hl => match us, hl with | [_, _], _ => rfl
    f_fresh := def_mk X G a28 l28 c28 k28 fun _ _ _ _ _ _ us hl => match us, hl with | [_, _], _ => rfl
    f__law_take := def_mk X G a29 l29 c29 k29 fun _ _ _ _ _ _ us hl => match us, hl with | [_, _], _ => rfl
    f__law_count := def_mk X G a30 l30 c30 k30 fun _ _ _ _ _ _ us hl => match us, hl with | [_], _ => rfl
    f__law_over := def_mk X G a31 l31 c31 k31 fun _ _ _ _ _ _ us hl => match us, hl with | [_, _, _], _ => rfl
    f__law_made := def_mk X G a32 l32 c32 k32 fun _ _ _ _ _ _ us hl => match us, hl with | [_, _], _ => rfl
    f__law_number := def_mk X G a33 l33 c33 k33 fun _ _ _ _ _ _ us hl => match us, hl with | [_, _], _ => rfl
    f__law_deep := def_mk X G a34 l34 c34 k34 fun _ _ _ _ _ _ us hl => match us, hl with | [_], _ => rfl
    f__law_new := def_mk X G a35 l35 c35 k35 fun _ _ _ _ _ _ us hl => match us, hl with | [_, _], _ => rfl
    f__law_is_cheap := def_mk X G a36 l36 c36 k36 fun _ _ _ _ _ _ us hl => match us, hl with | [_, _], _ => rfl
    f_law := def_mk X G a37 l37 c37 k37 fun _ _ _ _ _ _ us hl => match us, hl with | [_], _ => rfl
    b_all := PySem.W.mg_none_of X G z0
    b_bool := PySem.W.mg_none_of X G z1
    b_int := PySem.W.mg_none_of X G z2
    b_isinstance := PySem.W.mg_none_of X G z3
    b_len := PySem.W.mg_none_of X G z4
    b_list := PySem.W.mg_none_of X G z5
    b_max := PySem.W.mg_none_of X G z6
    b_min := PySem.W.mg_none_of X G z7
    b_range := PySem.W.mg_none_of X G z8
    b_repr := PySem.W.mg_none_of X G z9
    b_str := PySem.W.mg_none_of X G z10
    b_sum := PySem.W.mg_none_of X G z11
    b_tuple := PySem.W.mg_none_of X G z12
    c_HEAVIER := ⟨_, PySem.W.mg_of X G q0⟩
    c_TIED := ⟨_, PySem.W.mg_of X G q1⟩
    c_WIDEST := ⟨_, PySem.W.mg_of X G q2⟩
theorem law_walk {l : PySem.W.OpenLaw} {q : Program} {loose : List Str} {XP : (Str → Option Value) → Heap → Prop} {YP : World → Heap → Prop} {d : DefRec} {K : Params → PySem.W.Frag} (hn : l.most = some 63) (hdf : d.params.defaults = []) (hnm : d.name = "law")
    (hY : ∀ (w : World) (h : Heap), YP w h → (K w.params).In h) (B : ∀ (w : World) (mg : Str → Option Value) (h : Heap), (K w.params).In h → h.Ns mainGlobals mg → Base (K w.params) mg) :
    PySem.W.WalkO q loose XP YP l.row.toRowW d [] (fun f vs => PySem.call f vs) := by
  refine L2.walk_ofB (n := 63) (k := 201) (x := "_law_script") (CX := fun w => L2.CX l.prog w) (sp := fun w => spLaw (K w.params)) hn (by decide) hdf ⟨rfl, by decide, by decide⟩ hY (fun w mg fa h X G hmg => ?_) (fun w H a ns hl hb hO hS => spLaw_start hl hb hO hS) fun w H s e s' hc => cx_false hc
  have Bw := B w mg h X G
  obtain ⟨f, fd, h1, h2, h3⟩ := Bw.f_law
  rw [hnm] at hmg
  have e := hmg.symm.trans h1
  cases e
  refine ⟨fd, fun s u => h3 s [u] rfl, fun base _ _ => (fn_ok (k := 200) h2 sc_law rfl fun _ _ _ _ _ _ hr => d_law (top_all Bw 200) hr).imp fun vs H Q E hs => spLaw_run law_true hs⟩
end K68
open PySem PySem.W PyProof.Rows
set_option maxRecDepth 100000 in
set_option maxHeartbeats 0 in
theorem PySem.Challenge.cw_treelore_k68_whole_few_new_ties_holds : PySem.Challenge.rw_treelore_k68_whole_few_new_ties.Holds := by
  w_on; o_law; k_head; (case hw => w_witness2)
  k_fill
  refine K68.law_walk (l := PySem.Challenge.rw_treelore_k68_whole_few_new_ties) rfl rfl rfl (fun w h Y => PySem.W.kIn_of Y) ?F
  case F =>
    intro w mg h KX G
    refine' K68.base_mk KX G ?a0 ?l0 ?c0 ?k0 ?a1 ?l1 ?c1 ?k1 ?a2 ?l2 ?c2 ?k2 ?a3 ?l3 ?c3 ?k3 ?a4 ?l4 ?c4 ?k4 ?a5 ?l5 ?c5 ?k5 ?a6 ?l6 ?c6 ?k6 ?a7 ?l7 ?c7 ?k7 ?a8 ?l8 ?c8 ?k8 ?a9 ?l9 ?c9 ?k9 ?a10 ?l10 ?c10 ?k10 ?a11 ?l11 ?c11 ?k11 ?a12 ?l12 ?c12 ?k12 ?a13 ?l13 ?c13 ?k13 ?a14 ?l14 ?c14 ?k14 ?a15 ?l15 ?c15 ?k15 ?a16 ?l16 ?c16 ?k16 ?a17 ?l17 ?c17 ?k17 ?a18 ?l18 ?c18 ?k18 ?a19 ?l19 ?c19 ?k19 ?a20 ?l20 ?c20 ?k20 ?a21 ?l21 ?c21 ?k21 ?a22 ?l22 ?c22 ?k22 ?a23 ?l23 ?c23 ?k23 ?a24 ?l24 ?c24 ?k24 ?a25 ?l25 ?c25 ?k25 ?a26 ?l26 ?c26 ?k26 ?a27 ?l27 ?c27 ?k27 ?a28 ?l28 ?c28 ?k28 ?a29 ?l29 ?c29 ?k29 ?a30 ?l30 ?c30 ?k30 ?a31 ?l31 ?c31 ?k31 ?a32 ?l32 ?c32 ?k32 ?a33 ?l33 ?c33 ?k33 ?a34 ?l34 ?c34 ?k34 ?a35 ?l35 ?c35 ?k35 ?a36 ?l36 ?c36 ?k36 ?a37 ?l37 ?c37 ?k37 ?z0 ?z1 ?z2 ?z3 ?z4 ?z5 ?z6 ?z7 ?z8 ?z9 ?z10 ?z11 ?z12 ?q0 ?q1 ?q2
    (case a0 => k_is)
    (case l0 => k_is)
    (case c0 => k_is)
    (case k0 => k_is)
    (case a1 => k_is)
    (case l1 => k_is)
    (case c1 => k_is)
    (case k1 => k_is)
    (case a2 => k_is)
    (case l2 => k_is)
    (case c2 => k_is)
    (case k2 => k_is)
    (case a3 => k_is)
    (case l3 => k_is)
    (case c3 => k_is)
    (case k3 => k_is)
    (case a4 => k_is)
    (case l4 => k_is)
    (case c4 => k_is)
    (case k4 => k_is)
    (case a5 => k_is)
    (case l5 => k_is)
    (case c5 => k_is)
    (case k5 => k_is)
    (case a6 => k_is)
    (case l6 => k_is)
    (case c6 => k_is)
    (case k6 => k_is)
    (case a7 => k_is)
    (case l7 => k_is)
    (case c7 => k_is)
    (case k7 => k_is)
    (case a8 => k_is)
    (case l8 => k_is)
    (case c8 => k_is)
    (case k8 => k_is)
    (case a9 => k_is)
    (case l9 => k_is)
    (case c9 => k_is)
    (case k9 => k_is)
    (case a10 => k_is)
    (case l10 => k_is)
    (case c10 => k_is)
    (case k10 => k_is)
    (case a11 => k_is)
    (case l11 => k_is)
    (case c11 => k_is)
    (case k11 => k_is)
    (case a12 => k_is)
    (case l12 => k_is)
    (case c12 => k_is)
    (case k12 => k_is)
    (case a13 => k_is)
    (case l13 => k_is)
    (case c13 => k_is)
    (case k13 => k_is)
    (case a14 => k_is)
    (case l14 => k_is)
    (case c14 => k_is)
    (case k14 => k_is)
    (case a15 => k_is)
    (case l15 => k_is)
    (case c15 => k_is)
    (case k15 => k_is)
    (case a16 => k_is)
    (case l16 => k_is)
    (case c16 => k_is)
    (case k16 => k_is)
    (case a17 => k_is)
    (case l17 => k_is)
    (case c17 => k_is)
    (case k17 => k_is)
    (case a18 => k_is)
    (case l18 => k_is)
    (case c18 => k_is)
    (case k18 => k_is)
    (case a19 => k_is)
    (case l19 => k_is)
    (case c19 => k_is)
    (case k19 => k_is)
    (case a20 => k_is)
    (case l20 => k_is)
    (case c20 => k_is)
    (case k20 => k_is)
    (case a21 => k_is)
    (case l21 => k_is)
    (case c21 => k_is)
    (case k21 => k_is)
    (case a22 => k_is)
    (case l22 => k_is)
    (case c22 => k_is)
    (case k22 => k_is)
    (case a23 => k_is)
    (case l23 => k_is)
    (case c23 => k_is)
    (case k23 => k_is)
    (case a24 => k_is)
    (case l24 => k_is)
    (case c24 => k_is)
    (case k24 => k_is)
    (case a25 => k_is)
    (case l25 => k_is)
    (case c25 => k_is)
    (case k25 => k_is)
    (case a26 => k_is)
    (case l26 => k_is)
    (case c26 => k_is)
    (case k26 => k_is)
    (case a27 => k_is)
    (case l27 => k_is)
    (case c27 => k_is)
    (case k27 => k_is)
    (case a28 => k_is)
    (case l28 => k_is)
    (case c28 => k_is)
    (case k28 => k_is)
    (case a29 => k_is)
    (case l29 => k_is)
    (case c29 => k_is)
    (case k29 => k_is)
    (case a30 => k_is)
    (case l30 => k_is)
    (case c30 => k_is)
    (case k30 => k_is)
    (case a31 => k_is)
    (case l31 => k_is)
    (case c31 => k_is)
    (case k31 => k_is)
    (case a32 => k_is)
    (case l32 => k_is)
    (case c32 => k_is)
    (case k32 => k_is)
    (case a33 => k_is)
    (case l33 => k_is)
    (case c33 => k_is)
    (case k33 => k_is)
    (case a34 => k_is)
    (case l34 => k_is)
    (case c34 => k_is)
    (case k34 => k_is)
    (case a35 => k_is)
    (case l35 => k_is)
    (case c35 => k_is)
    (case k35 => k_is)
    (case a36 => k_is)
    (case l36 => k_is)
    (case c36 => k_is)
    (case k36 => k_is)
    (case a37 => k_is)
    (case l37 => k_is)
    (case c37 => k_is)
    (case k37 => k_is)
    (case z0 => k_is)
    (case z1 => k_is)
    (case z2 => k_is)
    (case z3 => k_is)
    (case z4 => k_is)
    (case z5 => k_is)
    (case z6 => k_is)
    (case z7 => k_is)
    (case z8 => k_is)
    (case z9 => k_is)
    (case z10 => k_is)
    (case z11 => k_is)
    (case z12 => k_is)
    (case q0 => k_is)
    (case q1 => k_is)
    (case q2 => k_is)
